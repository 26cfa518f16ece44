import PyProof.Rows.All
import Wide.All
import OpenK.AllK
import Wide.FinOn
import KE.KStateDown
import KE.KIsAll
import Lean
import HandS.Base
import HandS.Call
import HandS.Ends
import HandS.More
import HandS.Words
import HandS.WordsExc
import HandS.Defaults
import HandS.Head0
import HandS.Head1
import HandS.Head2
import HandS.HeadEnd
import HandS.HeadHook1
import HandS.HeadHook2
import HandS.HeadHook3
import HandS.HeadHook4
import PySem.Challenge.RW_tatamirooms_k14_whole_bent_borders_read
import KE.KDictKeyed
import KE.KDictLaw
import HandS.ForMost
import HandS.Evl
import HandS.Style
import HandS.IsInst
import HandS.Deep
import HandS.TupAny
import HandS.TupMul
import HandS.Flow
import HandS.Wide
import KE.GoesNew
import KE.GoesMore
import KE.KDictPairs
import HandS.DictComp
import KE.KDictWalk
import KE.SortData
import KE.DataCmp
import KE.DataMinMax
import HandS.TupSets
import KE.DataFind
import HandS.Strs
import HandS.Conv
import HandS.TryOnly
import HandS.Exc
import HandS.ExcOwn
import HandS.ExcIs
import HandS.Small
set_option Elab.async false
set_option linter.all false
set_option maxRecDepth 100000
set_option maxHeartbeats 0
namespace TH
open PySem PySem.Spec PyProof.Rows L2
def top (i : Nat) : Stmt := PySem.Challenge.pw_tatamirooms_k14_whole_bent_borders_read.main.body.getD i (.Pass ⟨0, 0, 0, 0⟩)
def dD (x : Str) (i : Nat) : He.DefD := ⟨(x, none), x, x, defArgs (top i), defBody (top i), defScope (top i), [], []⟩
def fn : List He.DefD := [
  dD "is_number" 4,
  dD "is_within" 5,
  dD "is_long" 6,
  dD "tupled" 7,
  dD "ascends" 8,
  dD "are_numbers" 9,
  dD "is_pair" 11,
  dD "is_any_square" 12,
  dD "is_room" 13,
  dD "sure_room" 14,
  dD "eight_of" 15,
  dD "four_of" 16,
  dD "known_of" 17,
  dD "rim_in" 18,
  dD "points_in" 19,
  dD "is_kind" 27,
  dD "are_kinds" 28,
  dD "led_by" 29,
  dD "alone_in" 30,
  dD "kinds_in" 31,
  dD "fits_across" 32,
  dD "fits_down" 33,
  dD "fits_two" 34,
  dD "pairs_from" 35,
  dD "spots_in" 36,
  dD "left_at_first" 38,
  dD "fours_that_fit" 39,
  dD "twos_that_fit" 40,
  dD "that_fit" 41,
  dD "kept_by" 42,
  dD "rounds_in" 43,
  dD "falls_in" 44,
  dD "is_row_of" 46,
  dD "border_sure" 47,
  dD "lets_for" 48,
  dD "floor_for" 49,
  dD "inside" 50,
  dD "is_border" 51,
  dD "why_no_border" 52,
  dD "_law_box" 54,
  dD "_law_take" 55,
  dD "_law_cells" 56,
  dD "_law_of" 57,
  dD "_law_lists" 58,
  dD "_law_same" 59,
  dD "_law_over" 60,
  dD "_law_beside" 61,
  dD "_law_around" 62,
  dD "_law_rim" 63,
  dD "_law_four" 64,
  dD "_law_points" 65,
  dD "_law_plan" 66,
  dD "_law_kinds_next" 67,
  dD "_law_moved_on" 68,
  dD "_law_lets_of" 69,
  dD "_law_floors" 70,
  dD "_law_some_laid" 71,
  dD "_law_laid" 72,
  dD "_law_border" 73,
  dD "_law_boxed" 74,
  dD "_law_room" 75,
  dD "_law_pairs_at" 76,
  dD "_law_suits" 77,
  dD "_law_fitting" 78,
  dD "_law_begin" 79,
  dD "_law_rounds" 80,
  dD "_law_strikes" 81,
  dD "_law_is_spot_so" 82,
  dD "_law_behind_steps" 83,
  dD "_law_bent_border" 84,
  dD "_law_heard" 85,
  dD "_law_barred_right" 86,
  dD "_law_by_hand_right" 87,
  dD "_law_right" 88,
  dD "law" 89]
def fa : List He.Fa := [.glo "is_number", .glo "is_within", .glo "is_long", .glo "tupled", .glo "ascends", .glo "are_numbers", .glo "is_pair", .glo "is_any_square", .glo "is_room", .glo "sure_room", .glo "eight_of", .glo "four_of", .glo "known_of", .glo "rim_in", .glo "points_in", .glo "is_kind", .glo "are_kinds", .glo "led_by", .glo "alone_in", .glo "kinds_in", .glo "fits_across", .glo "fits_down", .glo "fits_two", .glo "pairs_from", .glo "spots_in", .glo "left_at_first", .glo "fours_that_fit", .glo "twos_that_fit", .glo "that_fit", .glo "kept_by", .glo "rounds_in", .glo "falls_in", .glo "is_row_of", .glo "border_sure", .glo "lets_for", .glo "floor_for", .glo "inside", .glo "is_border", .glo "why_no_border", .glo "_law_box", .glo "_law_take", .glo "_law_cells", .glo "_law_of", .glo "_law_lists", .glo "_law_same", .glo "_law_over", .glo "_law_beside", .glo "_law_around", .glo "_law_rim", .glo "_law_four", .glo "_law_points", .glo "_law_plan", .glo "_law_kinds_next", .glo "_law_moved_on", .glo "_law_lets_of", .glo "_law_floors", .glo "_law_some_laid", .glo "_law_laid", .glo "_law_border", .glo "_law_boxed", .glo "_law_room", .glo "_law_pairs_at", .glo "_law_suits", .glo "_law_fitting", .glo "_law_begin", .glo "_law_rounds", .glo "_law_strikes", .glo "_law_is_spot_so", .glo "_law_behind_steps", .glo "_law_bent_border", .glo "_law_heard", .glo "_law_barred_right", .glo "_law_by_hand_right", .glo "_law_right", .glo "law", .glo "CanNot", .exc "CanNot", .exm "CanNot" "CanNot" true, .free "isinstance", .free "int", .free "bool", .free "len", .free "tuple", .free "list", .free "all", .free "range", .free "enumerate", .free "dict", .free "sorted", .free "zip", .free "sum", .free "abs", .free "set", .free "min", .free "max", .free "str", .free "ValueError", .int "EAST" 1, .int "SOUTH" 2, .int "WEST" 3, .int "NORTH" 4]
def tupK (K : PySem.W.Frag) (u : Value) (vs : List V) : Bool := match u with
  | .ref a => (match K.lookup a with
    | some ⟨.type "tuple", _, .seq its _, _⟩ => He.relAll vs its.toList
    | _ => false)
  | _ => false
def glob (K : PySem.W.Frag) (x : Str) : Value := match PySem.W.nsIn K mainGlobals x with
  | some (some v) => v
  | _ => .none
def itsAt (K : PySem.W.Frag) (u : Value) : List Value := match u with
  | .ref a => (match K.lookup a with
    | some ⟨.type "tuple", _, .seq its _, _⟩ => its.toList
    | _ => [])
  | _ => []
def exA (K : PySem.W.Frag) : Bool := tupK K (glob K "KINDS") [.int 0, .int 1, .int 2, .int 3, .int 4] &&
  (itsAt K (glob K "FAR")).length == 5 && ((itsAt K (glob K "FAR")).zip [(0, 0), (1, 0), (0, 1), (-1, 0), (0, -1)]).all fun p => tupK K p.1 [.int p.2.1, .int p.2.2]
def exC (K : PySem.W.Frag) : Bool := decide (PySem.W.findIn K (.ref (He.ga K "CanNot")) "__getattribute__" = some (some (.builtin "BaseException.__getattribute__"))) &&
  (decide (PySem.W.findIn K (.ref (He.ga K "CanNot")) "__getattr__" = some none) && (decide (PySem.W.subIn K (.ref (He.ga K "CanNot")) (.type "BaseException") = some true) && (PySem.W.hasDictIn K (He.ga K "CanNot") &&
  (decide (PySem.W.findIn K (.ref (He.ga K "CanNot")) "__class__" = some (some (.builtin "object.__class__"))) && (decide (PySem.W.specialIn K (.builtin "object.__class__") "__get__" = some (some (.builtin "getset_descriptor.__get__"))) &&
  (decide (PySem.W.takesIn K (.builtin "object.__class__") = some true) && (decide (PySem.W.mroIn K (He.ga K "CanNot") (.type "object") = some true) && decide (PySem.W.kitOne K (.ref (He.ga K "CanNot")) (.type "ValueError") = some true))))))))
def exB (K : PySem.W.Frag) : Bool := exA K && exC K
abbrev R : PySem.W.OpenRow := PySem.W.OpenLaw.row PySem.Challenge.rw_tatamirooms_k14_whole_bent_borders_read
abbrev hk : PySem.W.Hook := He.hookX 5 fa fn [] [] exB
def ob (s : PySem.W.SharedT) : He.AlX := He.obsX 5 fa fn [] [] exB (HandSHeadRun.getT s)
theorem ob_eq (s : PySem.W.SharedT) : ob s = hk.obs s.abs := He.obsX_eq (HandSHeadRun.getT_eq s)
def nm0 : List PySem.Str := ["CanNot", "Unfit", "is_number", "is_within", "is_long", "tupled", "ascends", "are_numbers", "is_pair", "is_any_square", "is_room", "sure_room"]
def nm1 : List PySem.Str := ["eight_of", "four_of", "known_of", "rim_in", "points_in", "EAST", "SOUTH", "WEST", "NORTH", "KINDS", "FAR", "is_kind"]
def nm2 : List PySem.Str := ["are_kinds", "led_by", "alone_in", "kinds_in", "fits_across", "fits_down", "fits_two", "pairs_from", "spots_in", "left_at_first", "fours_that_fit", "twos_that_fit"]
def nm3 : List PySem.Str := ["that_fit", "kept_by", "rounds_in", "falls_in", "is_row_of", "border_sure", "lets_for", "floor_for", "inside", "is_border", "why_no_border", "_law_box"]
def nm4 : List PySem.Str := ["_law_take", "_law_cells", "_law_of", "_law_lists", "_law_same", "_law_over", "_law_beside", "_law_around", "_law_rim", "_law_four", "_law_points", "_law_plan"]
def nm5 : List PySem.Str := ["_law_kinds_next", "_law_moved_on", "_law_lets_of", "_law_floors", "_law_some_laid", "_law_laid", "_law_border", "_law_boxed", "_law_room", "_law_pairs_at", "_law_suits", "_law_fitting"]
def nm6 : List PySem.Str := ["_law_begin", "_law_rounds", "_law_strikes", "_law_is_spot_so", "_law_behind_steps", "_law_bent_border", "_law_heard", "_law_barred_right", "_law_by_hand_right", "_law_right"]
def names : List PySem.Str := nm0 ++ nm1 ++ nm2 ++ nm3 ++ nm4 ++ nm5 ++ nm6
theorem run (w : World) : HandSHeadRun.RunEq R (PySem.W.view R.prog [89]) hk ob 3000 names w := by
  intro os
  kernel_rfl
end TH

set_option maxHeartbeats 2000000
/-! DL: python data as trees, over HandS: what represents what, memory of mutable objects, judgements at the level of data. -/
namespace DL
open PySem PySem.Spec PyProof.Rows L2 Evl

/-- data: frozen, or a mutable object by its address -/
inductive D where
  | non | bl (b : Bool) | int (i : Int) | str (x : Str)
  | tup (ds : List D) | lst (ds : List D)
  | dic (kvs : List (NestedKey × D))
  | dik (kvs : List (Int × D))
  | ref (a : Addr)
  | ty (n : String)
  | tupN (ds : List D)
  | lsK (ds : List D)
structure GX where
  P : Program
  w : World
  K : PySem.W.Frag
abbrev gx (X : Cx) : GX := ⟨X.prog, X.w, X.K⟩
mutual
def keyD : NestedKey → D
  | .none => .non
  | .num i => .int i
  | .text x => .str x
  | .tup ks => .tup (keyDs ks)
def keyDs : List NestedKey → List D
  | [] => []
  | k :: ks => keyD k :: keyDs ks
end
abbrev Ent := NestedKey × Addr × Value
/-- a dict with keys that are tuples: what is true of its own object -/
def fN (G : GX) (a : Addr) (xs : List Ent) (ep : Nat) (h : Heap) : Prop := (a == sysModules) = false ∧ xs.length ≤ sizeLine ∧ ∃ o es, h.get? a = some o ∧ o.ExactDict ∧ o.data = .dict es ep ∧ es.toList = xs.map (entryOfKey (nestedKind G.P G.w))
mutual
inductive Rp (G : GX) (H : Hp) : V → D → Prop
  | non : Rp G H .non .non
  | bl (b : Bool) : Rp G H (.bl b) (.bl b)
  | int (i : Int) : Rp G H (.int i) (.int i)
  | str (x : Str) : Rp G H (.str x) (.str x)
  | ref (a : Addr) : Rp G H (.ref a) (.ref a)
  | ty (n : String) : Rp G H (.ty n) (.ty n)
  | tupN {a : Addr} {vs : List V} {ds : List D} {o : Obj} : H a = some (.frz o (.tup vs)) → o.dict = none → RpA G H vs ds → Rp G H (.ref a) (.tupN ds)
  | lsK {a : Addr} {vs : List V} {ds : List D} : SqL G.K H a vs → RpA G H vs ds → Rp G H (.ref a) (.lsK ds)
  | tup {a : Addr} {vs : List V} {ds : List D} : SqT G.K H a vs → RpA G H vs ds → Rp G H (.ref a) (.tup ds)
  | lst {a : Addr} {vs : List V} {ds : List D} : H a = some (.lst vs) → RpA G H vs ds → Rp G H (.ref a) (.lst ds)
  | dic {a : Addr} {xs : List Ent} {ep : Nat} {kvs : List (NestedKey × D)} : H a = some (.ext (fN G a xs ep)) → (xs.map (·.1)).Nodup → RpN G H xs kvs → Rp G H (.ref a) (.dic kvs)
  | dik {a : Addr} {ks : List (Key × V)} {kvs : List (Int × D)} : H a = some (.dK ks) → RpK G H ks kvs → Rp G H (.ref a) (.dik kvs)
inductive RpA (G : GX) (H : Hp) : List V → List D → Prop
  | nil : RpA G H [] []
  | cons {v : V} {vs : List V} {d : D} {ds : List D} : Rp G H v d → RpA G H vs ds → RpA G H (v :: vs) (d :: ds)
inductive RpN (G : GX) (H : Hp) : List Ent → List (NestedKey × D) → Prop
  | nil : RpN G H [] []
  | cons {k : NestedKey} {a : Addr} {u : Value} {v : V} {d : D} {xs : List Ent} {kvs : List (NestedKey × D)} : Rp G H (.ref a) (keyD k) → k.depth ≤ 8 → RelV v u → Rp G H v d → RpN G H xs kvs → RpN G H ((k, a, u) :: xs) ((k, d) :: kvs)
inductive RpK (G : GX) (H : Hp) : List (Key × V) → List (Int × D) → Prop
  | nil : RpK G H [] []
  | cons {i : Int} {v : V} {d : D} {ks : List (Key × V)} {kvs : List (Int × D)} : Rp G H v d → RpK G H ks kvs → RpK G H ((.inl i, v) :: ks) ((i, d) :: kvs)
end

section
variable {G : GX} {H H' : Hp}
mutual
theorem Rp.mono (e : Ex H H') : ∀ {v : V} {d : D}, Rp G H v d → Rp G H' v d
  | _, _, .non => .non
  | _, _, .bl b => .bl b
  | _, _, .int i => .int i
  | _, _, .str x => .str x
  | _, _, .ref a => .ref a
  | _, _, .ty n => .ty n
  | _, _, .tupN h o r => .tupN (e _ _ h) o (RpA.mono e r)
  | _, _, .tup h r => .tup (ex_t e h) (RpA.mono e r)
  | _, _, .lsK h r => .lsK (ex_l e h) (RpA.mono e r)
  | _, _, .lst h r => .lst (e _ _ h) (RpA.mono e r)
  | _, _, .dic h n r => .dic (e _ _ h) n (RpN.mono e r)
  | _, _, .dik h r => .dik (e _ _ h) (RpK.mono e r)
theorem RpA.mono (e : Ex H H') : ∀ {vs : List V} {ds : List D}, RpA G H vs ds → RpA G H' vs ds
  | _, _, .nil => .nil
  | _, _, .cons h r => .cons (Rp.mono e h) (RpA.mono e r)
theorem RpN.mono (e : Ex H H') : ∀ {xs : List Ent} {kvs : List (NestedKey × D)}, RpN G H xs kvs → RpN G H' xs kvs
  | _, _, .nil => .nil
  | _, _, .cons k z t h r => .cons (Rp.mono e k) z t (Rp.mono e h) (RpN.mono e r)
theorem RpK.mono (e : Ex H H') : ∀ {ks : List (Key × V)} {kvs : List (Int × D)}, RpK G H ks kvs → RpK G H' ks kvs
  | _, _, .nil => .nil
  | _, _, .cons h r => .cons (Rp.mono e h) (RpK.mono e r)
end
theorem RpA.len : ∀ {vs : List V} {ds : List D}, RpA G H vs ds → vs.length = ds.length
  | _, _, .nil => rfl
  | _, _, .cons _ r => congrArg (· + 1) r.len
theorem RpA.app : ∀ {vs us : List V} {ds es : List D}, RpA G H vs ds → RpA G H us es → RpA G H (vs ++ us) (ds ++ es)
  | _, _, _, _, .nil, s => s
  | _, _, _, _, .cons h r, s => .cons h (r.app s)
theorem RpA.get : ∀ {vs : List V} {ds : List D} {i : Nat} {d : D}, RpA G H vs ds → ds[i]? = some d → ∃ v, vs[i]? = some v ∧ Rp G H v d
  | _, _, _, _, .nil, e => by simp at e
  | _, _, 0, _, .cons h _, e => by simp at e; subst e; exact ⟨_, rfl, h⟩
  | _, _, i + 1, _, .cons _ r, e => by
    obtain ⟨v, h1, h2⟩ := r.get (i := i) (by simpa using e)
    exact ⟨v, by simpa using h1, h2⟩
theorem RpA.getV : ∀ {vs : List V} {ds : List D} {i : Nat} {v : V}, RpA G H vs ds → vs[i]? = some v → ∃ d, ds[i]? = some d ∧ Rp G H v d
  | _, _, _, _, .nil, e => by simp at e
  | _, _, 0, _, .cons h _, e => by simp at e; subst e; exact ⟨_, rfl, h⟩
  | _, _, i + 1, _, .cons _ r, e => by
    obtain ⟨d, h1, h2⟩ := r.getV (i := i) (by simpa using e)
    exact ⟨d, by simpa using h1, h2⟩
theorem RpA.set : ∀ {vs : List V} {ds : List D} (i : Nat) {v : V} {d : D}, RpA G H vs ds → Rp G H v d → RpA G H (vs.set i v) (ds.set i d)
  | _, _, _, _, _, .nil, _ => .nil
  | _, _, 0, _, _, .cons _ r, q => .cons q r
  | _, _, i + 1, _, _, .cons h r, q => .cons h (r.set i q)
theorem RpA.take : ∀ {vs : List V} {ds : List D} (n : Nat), RpA G H vs ds → RpA G H (vs.take n) (ds.take n)
  | _, _, 0, _ => by simp; exact .nil
  | _, _, _ + 1, .nil => .nil
  | _, _, n + 1, .cons h r => .cons h (r.take n)
theorem RpA.drop : ∀ {vs : List V} {ds : List D} (n : Nat), RpA G H vs ds → RpA G H (vs.drop n) (ds.drop n)
  | _, _, 0, r => r
  | _, _, _ + 1, .nil => .nil
  | _, _, n + 1, .cons _ r => r.drop n
theorem RpA.rev {vs : List V} {ds : List D} : RpA G H vs ds → RpA G H vs.reverse ds.reverse
  | .nil => .nil
  | .cons h r => by rw [List.reverse_cons, List.reverse_cons]; exact r.rev.app (.cons h .nil)
end

/-! ### the memory of mutable objects -/
inductive MO where
  | lst (ds : List D) | dic (kvs : List (NestedKey × D)) | dik (kvs : List (Int × D))
def MO.frz : MO → D
  | .lst ds => .lst ds
  | .dic kvs => .dic kvs
  | .dik kvs => .dik kvs
abbrev MS := List (Addr × MO)
abbrev adr (M : MS) : List Addr := M.map (·.1)
def hid (as : List Addr) (H : Hp) : Hp := fun a => if a ∈ as then none else H a
theorem hid_ex {as : List Addr} {H : Hp} : Ex (hid as H) H := fun a o h => by
  unfold hid at h
  split at h
  · cases h
  · exact h
theorem hid_mono {as : List Addr} {H H' : Hp} (e : Ex H H') : Ex (hid as H) (hid as H') := fun a o h => by
  unfold hid at h ⊢
  split at h
  · cases h
  · rw [if_neg (by assumption)]; exact e _ _ h
theorem hid_upd {as : List Addr} {H : Hp} {p : Addr} {o : HO} (h : p ∈ as) : hid as (upd H p o) = hid as H := by
  funext a
  unfold hid
  by_cases ha : a ∈ as
  · rw [if_pos ha, if_pos ha]
  · have ne : a ≠ p := fun e => ha (by rw [e]; exact h)
    rw [if_neg ha, if_neg ha, upd_ne ne]
theorem hid_new {as : List Addr} {H : Hp} {p : Addr} {o : HO} (h : H p = none) : Ex (hid as H) (hid (p :: as) (upd H p o)) := fun a u e => by
  unfold hid at e ⊢
  split at e
  · cases e
  · have hp : a ≠ p := ne_of_none e h
    rw [if_neg (by simp only [List.mem_cons, not_or]; exact ⟨hp, by assumption⟩), upd_ne hp]
    exact e
theorem hid_new' {as : List Addr} {H : Hp} {p : Addr} {o : HO} (h : H p = none) : Ex (hid as H) (hid as (upd H p o)) := hid_mono (Ex.new h)
theorem hid_tail {as : List Addr} {H : Hp} {p : Addr} : Ex (hid (p :: as) H) (hid as H) := fun a u e => by
  unfold hid at e ⊢
  split at e
  · cases e
  · rename_i h
    rw [if_neg fun m => h (List.mem_cons_of_mem _ m)]
    exact e
def MOk (G : GX) (as : List Addr) (H : Hp) (p : Addr) : MO → Prop
  | .lst ds => ∃ vs, H p = some (.lst vs) ∧ RpA G (hid as H) vs ds
  | .dic kvs => ∃ xs ep, H p = some (.ext (fN G p xs ep)) ∧ (xs.map (·.1)).Nodup ∧ RpN G (hid as H) xs kvs
  | .dik kvs => ∃ ks, H p = some (.dK ks) ∧ RpK G (hid as H) ks kvs
/-- the content alone -/
def MCt (G : GX) (F : Hp) (p : Addr) : MO → HO → Prop
  | .lst ds, o => ∃ vs, o = .lst vs ∧ RpA G F vs ds
  | .dic kvs, o => ∃ xs ep, o = .ext (fN G p xs ep) ∧ (xs.map (·.1)).Nodup ∧ RpN G F xs kvs
  | .dik kvs, o => ∃ ks, o = .dK ks ∧ RpK G F ks kvs
theorem MCt.mono {G : GX} {F F' : Hp} {p : Addr} {o : HO} (e : Ex F F') : ∀ {mo : MO}, MCt G F p mo o → MCt G F' p mo o
  | .lst _, ⟨vs, a, r⟩ => ⟨vs, a, r.mono e⟩
  | .dic _, ⟨xs, ep, a, n, r⟩ => ⟨xs, ep, a, n, r.mono e⟩
  | .dik _, ⟨ks, a, r⟩ => ⟨ks, a, r.mono e⟩
theorem MCt.rp {G : GX} {F : Hp} {p : Addr} {o : HO} (h : F p = some o) : ∀ {mo : MO}, MCt G F p mo o → Rp G F (.ref p) mo.frz
  | .lst _, ⟨_, a, r⟩ => .lst (a ▸ h) r
  | .dic _, ⟨_, _, a, n, r⟩ => .dic (a ▸ h) n r
  | .dik _, ⟨_, a, r⟩ => .dik (a ▸ h) r
structure MSt (G : GX) (M : MS) (H : Hp) : Prop where
  nd : (adr M).Nodup
  ok : ∀ x ∈ M, ∃ o, H x.1 = some o ∧ MCt G (hid (adr M) H) x.1 x.2 o
theorem MSt.ex {G : GX} {M : MS} {H H' : Hp} (m : MSt G M H) (e : Ex H H') : MSt G M H' :=
  ⟨m.nd, fun x hx => let ⟨o, h1, h2⟩ := m.ok x hx; ⟨o, e _ _ h1, h2.mono (hid_mono e)⟩⟩
theorem adr_set {M : MS} {k : Nat} {p : Addr} {mo mo' : MO} (h : M[k]? = some (p, mo)) : adr (M.set k (p, mo')) = adr M := by
  unfold adr
  rw [List.map_set]
  apply List.ext_getElem?
  intro i
  by_cases e : k = i
  · subst e
    have hk : k < M.length := (List.getElem?_eq_some_iff.mp h).1
    rw [List.getElem?_set_self (by simpa using hk), List.getElem?_map, h]
    rfl
  · rw [List.getElem?_set_ne e]
theorem mem_adr {M : MS} {k : Nat} {p : Addr} {mo : MO} (h : M[k]? = some (p, mo)) : p ∈ adr M := List.mem_map.mpr ⟨_, List.mem_of_getElem? h, rfl⟩
theorem MSt.upd {G : GX} {M : MS} {H : Hp} {k : Nat} {p : Addr} {mo mo' : MO} {o : HO} (m : MSt G M H) (h : M[k]? = some (p, mo)) (c : MCt G (hid (adr M) H) p mo' o) : MSt G (M.set k (p, mo')) (upd H p o) := by
  have ea := adr_set (mo' := mo') h
  have hp := mem_adr h
  refine ⟨by rw [ea]; exact m.nd, fun x hx => ?_⟩
  rw [ea, hid_upd hp]
  obtain ⟨i, hi, hx⟩ := List.mem_iff_getElem.mp hx
  rw [List.length_set] at hi
  rw [List.getElem_set] at hx
  split at hx
  · subst hx
    exact ⟨o, upd_same, c⟩
  · rename_i ne
    subst hx
    obtain ⟨u, h1, h2⟩ := m.ok _ (List.getElem_mem hi)
    refine ⟨u, ?_, h2⟩
    rw [upd_ne]
    · exact h1
    · intro e
      have hk : k < M.length := (List.getElem?_eq_some_iff.mp h).1
      have ek : M[k] = (p, mo) := (List.getElem?_eq_some_iff.mp h).2
      have hi' : i < (adr M).length := by simpa using hi
      have hk' : k < (adr M).length := by simpa using hk
      have e2 : (adr M)[i] = (adr M)[k] := by simp [adr, ek, e]
      exact ne ((List.getElem_inj m.nd).mp e2).symm
theorem MSt.new {G : GX} {M : MS} {H : Hp} {p : Addr} {mo : MO} {o : HO} (m : MSt G M H) (h : H p = none) (c : MCt G (hid (adr M) H) p mo o) : MSt G ((p, mo) :: M) (L2.upd H p o) := by
  have hp : p ∉ adr M := fun hm => by
    obtain ⟨x, hx, e⟩ := List.mem_map.mp hm
    obtain ⟨u, h1, _⟩ := m.ok x hx
    rw [e, h] at h1
    cases h1
  refine ⟨List.nodup_cons.mpr ⟨hp, m.nd⟩, fun x hx => ?_⟩
  rcases List.mem_cons.mp hx with e | hx
  · subst e
    exact ⟨o, upd_same, c.mono (hid_new h)⟩
  · obtain ⟨u, h1, h2⟩ := m.ok x hx
    exact ⟨u, by rw [upd_ne (ne_of_none h1 h)]; exact h1, h2.mono (hid_new h)⟩
theorem MSt.drop {G : GX} {M : MS} {H : Hp} {x : Addr × MO} (m : MSt G (x :: M) H) : MSt G M H :=
  ⟨(List.nodup_cons.mp m.nd).2, fun y hy => let ⟨o, h1, h2⟩ := m.ok y (List.mem_cons_of_mem _ hy); ⟨o, h1, h2.mono hid_tail⟩⟩
theorem MSt.at {G : GX} {M : MS} {H : Hp} {k : Nat} {p : Addr} {mo : MO} (m : MSt G M H) (h : M[k]? = some (p, mo)) : ∃ o, H p = some o ∧ MCt G (hid (adr M) H) p mo o := m.ok _ (List.mem_of_getElem? h)
/-- what was frozen stays -/
abbrev Fx (M : MS) (H : Hp) (M' : MS) (H' : Hp) : Prop := Ex (hid (adr M) H) (hid (adr M') H')

abbrev EnvD := List (Option D)
structure At (G : GX) (ρ : EnvD) (M : MS) (σ : L2.St) (H : Hp) : Prop where
  m : MSt G M H
  env : ∀ (i : Nat) (d : D), ρ[i]? = some (some d) → ∃ v, σ[i]? = some (some v) ∧ Rp G (hid (adr M) H) v d
  len : ρ.length = σ.length
theorem At.step {G : GX} {ρ : EnvD} {M M' : MS} {σ : L2.St} {H H' : Hp} (a : At G ρ M σ H) (m : MSt G M' H') (f : Fx M H M' H') : At G ρ M' σ H' :=
  ⟨m, fun i d h => let ⟨v, h1, h2⟩ := a.env i d h; ⟨v, h1, h2.mono f⟩, a.len⟩
theorem At.set {G : GX} {ρ : EnvD} {M : MS} {σ : L2.St} {H : Hp} {i : Nat} {v : V} {d : D} (a : At G ρ M σ H) (r : Rp G (hid (adr M) H) v d) : At G (ρ.set i (some d)) M (σ.set i (some v)) H := by
  refine ⟨a.m, fun j e h => ?_, by rw [List.length_set, List.length_set, a.len]⟩
  by_cases hj : i = j
  · subst hj
    by_cases hi : i < ρ.length
    · rw [List.getElem?_set_self hi] at h
      cases h
      exact ⟨v, List.getElem?_set_self (by rw [← a.len]; exact hi), r⟩
    · rw [List.getElem?_eq_none (by rw [List.length_set]; omega)] at h
      cases h
  · rw [List.getElem?_set_ne hj] at h
    rw [List.getElem?_set_ne hj]
    exact a.env j e h

/-! ### judgements -/
@[irreducible] def wpE (X : Cx) (e : Expr) : TE := fun σ H Q => ∀ pins s, Inv X pins σ H s → wpAny (model X.prog X.w) X.A (eval e X.env) (EP X pins σ Q) X.xe s
@[irreducible] def wpT (X : Cx) (e : Expr) : TT := fun σ H Q => ∀ pins s, Inv X pins σ H s → wpAny (model X.prog X.w) X.A (isTrue e X.env (eval e X.env)) (TP X pins σ Q) X.xe s
@[irreducible] def wpA (X : Cx) (es : List Expr) : TA := fun σ H Q => ∀ pos pins s, Inv X pins σ H s → wpAny (model X.prog X.w) X.A (spliced (backTo pos (starEach es X.env))) (AP X pins σ Q) X.xe s
@[irreducible] def wpS (X : Cx) (st : Stmt) : TS := fun D σ H => ∀ pins s, Inv X pins σ H s → wpAny (model X.prog X.w) X.A (exec st X.env) (SP X pins D) X.xe s
@[irreducible] def wpSs (X : Cx) (st : List Stmt) : TS := fun D σ H => ∀ pins s, Inv X pins σ H s → wpAny (model X.prog X.w) X.A (execs st X.env) (SP X pins D) X.xe s
@[irreducible] def wpG (X : Cx) (tg : Expr) : TG := fun v σ H Q => ∀ pins s u, Inv X pins σ H s → RelV v u → wpAny (model X.prog X.w) X.A (assign tg X.env u) (fun _ s' => ∃ σ' H', Inv X pins σ' H' s' ∧ Q σ' H') X.xe s
@[irreducible] def wpI (X : Cx) (tg iter : Expr) : TI := fun σ H R => ∀ pins s, Inv X pins σ H s →
    wpAny (model X.prog X.w) X.A (eval iter X.env) (fun v s1 => wpAny (model X.prog X.w) X.A (pyIter v) (PIE X pins σ tg R) X.xe s1) X.xe s
section
variable {X : Cx}
theorem pe_wp {e : Expr} : PE X e (wpE X e) := ⟨fun pins s _ _ _ I h => by unfold wpE at h; exact h pins s I⟩
theorem pt_wp {e : Expr} : PT X e (wpT X e) := ⟨fun pins s _ _ _ I h => by unfold wpT at h; exact h pins s I⟩
theorem pa_wp {es : List Expr} : PA X es (wpA X es) := ⟨fun pos pins s _ _ _ I h => by unfold wpA at h; exact h pos pins s I⟩
theorem ps_wp {st : Stmt} : PS X st (wpS X st) := ⟨fun pins s _ _ _ I h => by unfold wpS at h; exact h pins s I⟩
theorem pss_wp {st : List Stmt} : PSs X st (wpSs X st) := ⟨fun pins s _ _ _ I h => by unfold wpSs at h; exact h pins s I⟩
theorem pg_wp {tg : Expr} : PG X tg (wpG X tg) := ⟨fun pins s _ _ _ u _ I r h => by unfold wpG at h; exact h pins s u I r⟩
theorem pi_wp {tg iter : Expr} : PI X tg iter (wpI X tg iter) := ⟨fun pins s _ _ _ I h => by unfold wpI at h; exact h pins s I⟩
theorem wp_pe {e : Expr} {t : TE} (p : PE X e t) {σ : L2.St} {H : Hp} {Q : VK} (h : t σ H Q) : wpE X e σ H Q := by unfold wpE; exact fun pins s I => p.run pins s σ H Q I h
theorem wp_pt {e : Expr} {t : TT} (p : PT X e t) {σ : L2.St} {H : Hp} {Q : Bool → Hp → Prop} (h : t σ H Q) : wpT X e σ H Q := by unfold wpT; exact fun pins s I => p.run pins s σ H Q I h
theorem wp_pa {es : List Expr} {t : TA} (p : PA X es t) {σ : L2.St} {H : Hp} {Q : List V → Hp → Prop} (h : t σ H Q) : wpA X es σ H Q := by unfold wpA; exact fun pos pins s I => p.run pos pins s σ H Q I h
theorem wp_ps {st : Stmt} {t : TS} (p : PS X st t) {σ : L2.St} {H : Hp} {D : Ends} (h : t D σ H) : wpS X st D σ H := by unfold wpS; exact fun pins s I => p.run pins s σ H D I h
theorem wp_pss {st : List Stmt} {t : TS} (p : PSs X st t) {σ : L2.St} {H : Hp} {D : Ends} (h : t D σ H) : wpSs X st D σ H := by unfold wpSs; exact fun pins s I => p.run pins s σ H D I h
theorem wp_pg {tg : Expr} {t : TG} (p : PG X tg t) {v : V} {σ : L2.St} {H : Hp} {Q : L2.St → Hp → Prop} (h : t v σ H Q) : wpG X tg v σ H Q := by unfold wpG; exact fun pins s u I r => p.run pins s σ H v u Q I r h
theorem wp_pi {tg iter : Expr} {t : TI} (p : PI X tg iter t) {σ : L2.St} {H : Hp} {R : It → Hp → Prop} (h : t σ H R) : wpI X tg iter σ H R := by unfold wpI; exact fun pins s I => p.run pins s σ H R I h
end
/-- how a wish about data is a wish about values -/
def Lft (G : GX) (M : MS) (H : Hp) (Q : D → MS → Prop) (Qv : VK) : Prop := ∀ v d M' H', Q d M' → MSt G M' H' → Fx M H M' H' → Rp G (hid (adr M') H') v d → Qv v H'
def LftT (G : GX) (M : MS) (H : Hp) (Q : Bool → MS → Prop) (Qv : Bool → Hp → Prop) : Prop := ∀ b M' H', Q b M' → MSt G M' H' → Fx M H M' H' → Qv b H'
def LftA (G : GX) (M : MS) (H : Hp) (Q : List D → MS → Prop) (Qv : List V → Hp → Prop) : Prop := ∀ vs ds M' H', Q ds M' → MSt G M' H' → Fx M H M' H' → RpA G (hid (adr M') H') vs ds → Qv vs H'
def LftG (G : GX) (M : MS) (H : Hp) (Q : EnvD → MS → Prop) (Qv : L2.St → Hp → Prop) : Prop := ∀ ρ' M' σ' H', Q ρ' M' → At G ρ' M' σ' H' → Fx M H M' H' → Qv σ' H'
def WE (X : Cx) (e : Expr) (ρ : EnvD) (M : MS) (Q : D → MS → Prop) : Prop := ∀ σ H, At (gx X) ρ M σ H → ∀ Qv : VK, Lft (gx X) M H Q Qv → wpE X e σ H Qv
def WT (X : Cx) (e : Expr) (ρ : EnvD) (M : MS) (Q : Bool → MS → Prop) : Prop := ∀ σ H, At (gx X) ρ M σ H → ∀ Qv, LftT (gx X) M H Q Qv → wpT X e σ H Qv
def WA (X : Cx) (es : List Expr) (ρ : EnvD) (M : MS) (Q : List D → MS → Prop) : Prop := ∀ σ H, At (gx X) ρ M σ H → ∀ Qv, LftA (gx X) M H Q Qv → wpA X es σ H Qv
def WG (X : Cx) (tg : Expr) (d : D) (ρ : EnvD) (M : MS) (Q : EnvD → MS → Prop) : Prop := ∀ v σ H, At (gx X) ρ M σ H → Rp (gx X) (hid (adr M) H) v d → ∀ Qv, LftG (gx X) M H Q Qv → wpG X tg v σ H Qv
structure DEnds where
  nx : EnvD → MS → Prop
  rt : D → MS → Prop
  bk : EnvD → MS → Prop := fun _ _ => False
  ct : EnvD → MS → Prop := fun _ _ => False
structure Lk (G : GX) (M : MS) (H : Hp) (E : DEnds) (D : Ends) : Prop where
  nx : LftG G M H E.nx D.nx
  rt : Lft G M H E.rt D.rt
  bk : LftG G M H E.bk D.bk
  ct : LftG G M H E.ct D.ct
def WS (X : Cx) (st : Stmt) (ρ : EnvD) (M : MS) (E : DEnds) : Prop := ∀ σ H, At (gx X) ρ M σ H → ∀ D, Lk (gx X) M H E D → wpS X st D σ H
def WSs (X : Cx) (st : List Stmt) (ρ : EnvD) (M : MS) (E : DEnds) : Prop := ∀ σ H, At (gx X) ρ M σ H → ∀ D, Lk (gx X) M H E D → wpSs X st D σ H
section
variable {G : GX} {M M' : MS} {H H' : Hp}
theorem Fx.refl {M : MS} {H : Hp} : Fx M H M H := Ex.refl _
theorem Lft.go {Q : D → MS → Prop} {Qv : VK} (l : Lft G M H Q Qv) (f : Fx M H M' H') : Lft G M' H' Q Qv := fun v d M2 H2 q m f2 r => l v d M2 H2 q m (Ex.trans f f2) r
theorem LftT.go {Q : Bool → MS → Prop} {Qv : Bool → Hp → Prop} (l : LftT G M H Q Qv) (f : Fx M H M' H') : LftT G M' H' Q Qv := fun b M2 H2 q m f2 => l b M2 H2 q m (Ex.trans f f2)
theorem LftA.go {Q : List D → MS → Prop} {Qv : List V → Hp → Prop} (l : LftA G M H Q Qv) (f : Fx M H M' H') : LftA G M' H' Q Qv := fun v d M2 H2 q m f2 r => l v d M2 H2 q m (Ex.trans f f2) r
theorem LftG.go {Q : EnvD → MS → Prop} {Qv : L2.St → Hp → Prop} (l : LftG G M H Q Qv) (f : Fx M H M' H') : LftG G M' H' Q Qv := fun v d M2 H2 q m f2 => l v d M2 H2 q m (Ex.trans f f2)
theorem Lk.go {E : DEnds} {D : Ends} (l : Lk G M H E D) (f : Fx M H M' H') : Lk G M' H' E D := ⟨l.nx.go f, l.rt.go f, l.bk.go f, l.ct.go f⟩
end
/-- evaluates to d, leaving M' -/
def DE (X : Cx) (e : Expr) (ρ : EnvD) (M : MS) (d : D) (M' : MS) : Prop := WE X e ρ M fun d' M2 => d' = d ∧ M2 = M'
def DT (X : Cx) (e : Expr) (ρ : EnvD) (M : MS) (b : Bool) (M' : MS) : Prop := WT X e ρ M fun b' M2 => b' = b ∧ M2 = M'
def DA (X : Cx) (es : List Expr) (ρ : EnvD) (M : MS) (ds : List D) (M' : MS) : Prop := WA X es ρ M fun ds' M2 => ds' = ds ∧ M2 = M'
/-- evaluates to a new object -/
def DO (X : Cx) (e : Expr) (ρ : EnvD) (M : MS) (mo : MO) (M' : MS) : Prop := WE X e ρ M fun d M2 => ∃ p, d = .ref p ∧ M2 = (p, mo) :: M'
theorem WE.imp {X : Cx} {e : Expr} {ρ : EnvD} {M : MS} {Q Q' : D → MS → Prop} (h : WE X e ρ M Q) (q : ∀ d M', Q d M' → Q' d M') : WE X e ρ M Q' := fun σ H a Qv l => h σ H a Qv fun v d M' H' z => l v d M' H' (q _ _ z)
theorem WT.imp {X : Cx} {e : Expr} {ρ : EnvD} {M : MS} {Q Q' : Bool → MS → Prop} (h : WT X e ρ M Q) (q : ∀ d M', Q d M' → Q' d M') : WT X e ρ M Q' := fun σ H a Qv l => h σ H a Qv fun d M' H' z => l d M' H' (q _ _ z)
theorem WA.imp {X : Cx} {e : List Expr} {ρ : EnvD} {M : MS} {Q Q' : List D → MS → Prop} (h : WA X e ρ M Q) (q : ∀ d M', Q d M' → Q' d M') : WA X e ρ M Q' := fun σ H a Qv l => h σ H a Qv fun v d M' H' z => l v d M' H' (q _ _ z)
theorem DE.to {X : Cx} {e : Expr} {ρ : EnvD} {M M' : MS} {d : D} {Q : D → MS → Prop} (h : DE X e ρ M d M') (q : Q d M') : WE X e ρ M Q := h.imp fun _ _ ⟨a, b⟩ => by subst a b; exact q
theorem DT.to {X : Cx} {e : Expr} {ρ : EnvD} {M M' : MS} {d : Bool} {Q : Bool → MS → Prop} (h : DT X e ρ M d M') (q : Q d M') : WT X e ρ M Q := h.imp fun _ _ ⟨a, b⟩ => by subst a b; exact q
theorem DA.to {X : Cx} {e : List Expr} {ρ : EnvD} {M M' : MS} {d : List D} {Q : List D → MS → Prop} (h : DA X e ρ M d M') (q : Q d M') : WA X e ρ M Q := h.imp fun _ _ ⟨a, b⟩ => by subst a b; exact q
theorem DO.to {X : Cx} {e : Expr} {ρ : EnvD} {M M' : MS} {mo : MO} {Q : D → MS → Prop} (h : DO X e ρ M mo M') (q : ∀ p, Q (.ref p) ((p, mo) :: M')) : WE X e ρ M Q := h.imp fun _ _ ⟨p, a, b⟩ => by subst a b; exact q p
/-- a new object frozen -/
theorem DO.frz {X : Cx} {e : Expr} {ρ : EnvD} {M M' : MS} {mo : MO} (h : DO X e ρ M mo M') : DE X e ρ M mo.frz M' := fun σ H a Qv l => h σ H a Qv fun v d M2 H2 ⟨p, e1, e2⟩ m f r => by
  subst e1 e2
  obtain ⟨o, h1, h2⟩ := m.ok (p, mo) List.mem_cons_self
  refine l v mo.frz M' H2 ⟨rfl, rfl⟩ m.drop (Ex.trans f hid_tail) ?_
  cases r
  refine MCt.rp (o := o) ?_ (h2.mono hid_tail)
  unfold hid
  rw [if_neg (List.nodup_cons.mp m.nd).1]
  exact h1
end DL

set_option maxHeartbeats 2000000
/-! DL: the context, names, constants, displays, operators, tests. -/
namespace DL
open PySem PySem.Spec PyProof.Rows L2 Evl

def visB (sc : Scope) (x : Str) : Bool := match sc.names.lookup x with
  | some .local => true
  | some .cell => true
  | some .free => true
  | _ => false
def stB (b : Bool) (sc : Scope) (x : Str) : Bool := match sc.names.lookup x with
  | some .local => true
  | some .cell => b
  | _ => false
def glB (sc : Scope) (x : Str) : Bool := match sc.names.lookup x with
  | some .globalImplicit => true
  | _ => false
/-- what is known of a context: a def's (b = true) or a block's -/
structure XOk (X : Cx) (N : List Str) (sc : Scope) (k : Nat) (b : Bool) : Prop where
  n : X.N = N
  nd : N.Nodup
  kind : sc.kind = .function
  calm : X.calm = true
  room : Room k X.A
  fn : b = true → ∀ x, X.fn x = true
  nv : PassesOwn (model X.prog X.w) X.A X.env X.xe
  scp : X.env.scope = sc
section
variable {X : Cx} {N : List Str} {sc : Scope} {k : Nat} {b : Bool}
theorem XOk.vis (h : XOk X N sc k b) {x : Str} (v : visB sc x = true) : Vis X.env.scope x := by
  unfold visB at v
  unfold Vis
  rw [h.scp]
  cases e : sc.names.lookup x with
  | none => rw [e] at v; cases v
  | some kd =>
    rw [e] at v
    cases kd <;> first | exact Or.inl rfl | exact Or.inr (Or.inl rfl) | exact Or.inr (Or.inr rfl) | cases v
theorem XOk.loc (h : XOk X N sc k b) {x : Str} (v : stB b sc x = true) : L2.Loc X.env.scope x ∧ (X.fn x = true ∨ X.env.scope.names.lookup x = some .local) := by
  unfold stB at v
  unfold L2.Loc
  rw [h.scp]
  cases e : sc.names.lookup x with
  | none => rw [e] at v; cases v
  | some kd =>
    rw [e] at v
    cases kd with
    | «local» => exact ⟨Or.inl rfl, Or.inr rfl⟩
    | cell => exact ⟨Or.inr rfl, Or.inl (h.fn v x)⟩
    | _ => cases v
theorem XOk.gl (h : XOk X N sc k b) {x : Str} (v : glB sc x = true) : Gl X x := by
  unfold glB at v
  unfold Gl Env.kindOf
  rw [h.scp]
  cases e : sc.names.lookup x with
  | none => rw [e] at v; cases v
  | some kd =>
    rw [e] at v
    cases kd <;> first | rfl | cases v
theorem XOk.un (h : XOk X N sc k b) : X.A.units + 1 < cLine := hu_of h.room
theorem XOk.un64 (h : XOk X N sc k b) : X.A.units + 64 < cLine := h.room.units
end

section
variable {X : Cx} {N : List Str} {sc : Scope} {k : Nat} {b : Bool} {ρ : EnvD} {M M1 M2 M' : MS} {pos : Pos} {Q : D → MS → Prop}
/-! ### constants, names -/
theorem we_c {e : Expr} {v : V} {d : D} (p : PE X e (tC v)) (r : ∀ H, Rp (gx X) H v d) : DE X e ρ M d M := fun σ H a Qv l => wp_pe p (l v d M H ⟨rfl, rfl⟩ a.m Fx.refl (r _))
theorem de_int {i : Int} {j} : DE X (.Constant (.int i) j pos) ρ M (.int i) M := we_c pe_int fun _ => .int i
theorem de_bl {c : Bool} {j} : DE X (.Constant (.bool c) j pos) ρ M (.bl c) M := we_c pe_bl fun _ => .bl c
theorem de_non {j} : DE X (.Constant .none j pos) ρ M .non M := we_c pe_non fun _ => .non
theorem de_str {x : Str} {j} : DE X (.Constant (.str x) j pos) ρ M (.str x) M := we_c pe_str fun _ => .str x
theorem de_var (h : XOk X N sc k b) (i : Nat) {x : Str} {d : D} (hi : N[i]? = some x) (hv : visB sc x = true) (hd : ρ[i]? = some (some d)) (h1 : (x == ("__debug__" : Str)) = false := by decide +kernel) (h2 : (x == ("__classdict__" : Str)) = false := by decide +kernel) :
    DE X (.Name x pos) ρ M d M := fun σ H a Qv l => by
  obtain ⟨v, e1, r⟩ := a.env i d hd
  exact wp_pe (pe_var (by rw [h.n]; exact hi) (h.vis hv) h1 h2) ⟨v, e1, l v d M H ⟨rfl, rfl⟩ a.m Fx.refl r⟩
theorem de_glob (h : XOk X N sc k b) {x : Str} {u : Value} {v : V} {d : D} (hg : glB sc x = true) (hm : X.mg x = some u) (r : RelV v u) (rp : ∀ H, Rp (gx X) H v d) (h1 : (x == ("__debug__" : Str)) = false := by decide +kernel) : DE X (.Name x pos) ρ M d M :=
  we_c (pe_glob (h.gl hg) hm r h1) rp
/-! ### argument lists, displays -/
theorem wa_nil {Q : List D → MS → Prop} (q : Q [] M) : WA X [] ρ M Q := fun σ H a Qv l => wp_pa pa_nil (l [] [] M H q a.m Fx.refl .nil)
theorem wa_cons {e : Expr} {es : List Expr} {Q : List D → MS → Prop} (h : WE X e ρ M fun d M1 => WA X es ρ M1 fun ds M2 => Q (d :: ds) M2)
    (hs : starEach (e :: es) X.env = (false, eval e X.env) :: starEach es X.env := by rfl) : WA X (e :: es) ρ M Q := fun σ H a Qv l => by
  refine wp_pa (pa_cons pe_wp pa_wp hs) (h σ H a _ fun v d M1 H1 q m1 f1 r1 => ?_)
  refine q σ H1 (a.step m1 f1) _ fun vs ds M2 H2 q2 m2 f2 r2 => ?_
  exact l _ _ M2 H2 q2 m2 (Ex.trans f1 f2) (.cons (r1.mono f2) r2)
theorem da_nil : DA X [] ρ M [] M := wa_nil ⟨rfl, rfl⟩
theorem da_cons {e : Expr} {es : List Expr} {d : D} {ds : List D} (h1 : DE X e ρ M d M1) (h2 : DA X es ρ M1 ds M2) (hs : starEach (e :: es) X.env = (false, eval e X.env) :: starEach es X.env := by rfl) : DA X (e :: es) ρ M (d :: ds) M2 :=
  wa_cons (h1.to (h2.to ⟨rfl, rfl⟩)) hs
theorem we_tup {es : List Expr} {x1} (h : WA X es ρ M fun ds M' => ds.length ≤ 100000 ∧ Q (.tup ds) M') : WE X (.Tuple es x1 pos) ρ M Q := fun σ H a Qv l => by
  refine wp_pe (pe_tup pa_wp) (h σ H a _ fun vs ds M1 H1 ⟨z, q⟩ m1 f1 r1 => ⟨by rw [r1.len]; exact sz_of z, fun p hp => ?_⟩)
  have f2 : Fx M1 H1 M1 (upd H1 p (.tup vs)) := hid_new' hp
  have hn : p ∉ adr M1 := fun hm => by
    obtain ⟨x, hx, e⟩ := List.mem_map.mp hm
    obtain ⟨o, h1, _⟩ := m1.ok x hx
    rw [e, hp] at h1
    cases h1
  refine l _ _ M1 _ q (m1.ex (Ex.new hp)) (Ex.trans f1 f2) (.tup (st_of ?_) (r1.mono f2))
  unfold hid
  rw [if_neg hn]
  exact upd_same
theorem de_tup {es : List Expr} {x1} {ds : List D} (h : DA X es ρ M ds M') (z : ds.length ≤ 100000 := by simp) : DE X (.Tuple es x1 pos) ρ M (.tup ds) M' := we_tup (h.to ⟨z, rfl, rfl⟩)
theorem wo_lst {es : List Expr} (h : WA X es ρ M fun ds M' => ds.length ≤ 100000 ∧ ∀ p, Q (.ref p) ((p, .lst ds) :: M')) : WE X (.List es pos) ρ M Q := fun σ H a Qv l => by
  refine wp_pe (pe_lst pa_wp) (h σ H a _ fun vs ds M1 H1 ⟨z, q⟩ m1 f1 r1 => ⟨by rw [r1.len]; exact sz_of z, fun p hp => ?_⟩)
  exact l _ _ _ _ (q p) (m1.new hp ⟨vs, rfl, r1⟩) (Ex.trans f1 (hid_new hp)) (.ref p)
theorem do_lst {es : List Expr} {ds : List D} (h : DA X es ρ M ds M') (z : ds.length ≤ 100000 := by simp) : DO X (.List es pos) ρ M (.lst ds) M' := wo_lst (h.to ⟨z, fun p => ⟨p, rfl, rfl⟩⟩)
/-- a new object of a list of values -/
theorem new_lst {G : GX} {H : Hp} {Q : D → MS → Prop} {Qv : VK} {vs : List V} {ds : List D} {p : Addr} (l : Lft G M H Q Qv) (m : MSt G M H) (r : RpA G (hid (adr M) H) vs ds) (q : ∀ p, Q (.ref p) ((p, .lst ds) :: M)) (hp : H p = none) : Qv (.ref p) (upd H p (.lst vs)) :=
  l _ _ _ _ (q p) (m.new hp ⟨vs, rfl, r⟩) (hid_new hp) (.ref p)
theorem new_tup {G : GX} {H : Hp} {Q : D → MS → Prop} {Qv : VK} {vs : List V} {ds : List D} {p : Addr} (l : Lft G M H Q Qv) (m : MSt G M H) (r : RpA G (hid (adr M) H) vs ds) (q : Q (.tup ds) M) (hp : H p = none) : Qv (.ref p) (upd H p (.tup vs)) := by
  have f2 : Fx M H M (upd H p (.tup vs)) := hid_new' hp
  have hn : p ∉ adr M := fun hm => by
    obtain ⟨x, hx, e⟩ := List.mem_map.mp hm
    obtain ⟨o, h1, _⟩ := m.ok x hx
    rw [e, hp] at h1
    cases h1
  refine l _ _ M _ q (m.ex (Ex.new hp)) f2 (.tup (st_of ?_) (r.mono f2))
  unfold hid
  rw [if_neg hn]
  exact upd_same

/-! ### operators -/
@[irreducible] def wpO (X : Cx) (f : Value → Value → Sem Value) (x y : V) (H : Hp) (Q : VK) : Prop := ∀ pins s σ u v, Inv X pins σ H s → RelV x u → RelV y v → wpAny (model X.prog X.w) X.A (f u v) (EP X pins σ Q) X.xe s
theorem or_wp {f : Value → Value → Sem Value} : OpR X f (wpO X f) := fun pins s σ H x y u v Q I rx ry h => by unfold wpO at h; exact h pins s σ u v I rx ry
theorem wp_or {f : Value → Value → Sem Value} {r : R2} (p : OpR X f r) {x y : V} {H : Hp} {Q : VK} (h : r x y H Q) : wpO X f x y H Q := by unfold wpO; exact fun pins s σ u v I rx ry => p pins s σ H x y u v Q I rx ry h
/-- a two-place operation on data -/
def WO (X : Cx) (f : Value → Value → Sem Value) (d1 d2 : D) (M : MS) (Q : D → MS → Prop) : Prop := ∀ H v1 v2, MSt (gx X) M H → Rp (gx X) (hid (adr M) H) v1 d1 → Rp (gx X) (hid (adr M) H) v2 d2 → ∀ Qv, Lft (gx X) M H Q Qv → wpO X f v1 v2 H Qv
theorem we_bin {a c : Expr} {op : Operator} (h : WE X a ρ M fun d1 M1 => WE X c ρ M1 fun d2 M2 => WO X (binaryOp op) d1 d2 M2 Q) : WE X (.BinOp a op c pos) ρ M Q := fun σ H at0 Qv l => by
  refine wp_pe (pe_op or_wp pe_wp pe_wp) (h σ H at0 _ fun v1 d1 M1 H1 q1 m1 f1 r1 => ?_)
  refine q1 σ H1 (at0.step m1 f1) _ fun v2 d2 M2 H2 q2 m2 f2 r2 => ?_
  exact q2 H2 v1 v2 m2 (r1.mono f2) r2 _ (l.go (Ex.trans f1 f2))
theorem we_cmp {a c : Expr} {op : CmpOp} (h : WE X a ρ M fun d1 M1 => WE X c ρ M1 fun d2 M2 => WO X (compareOp op) d1 d2 M2 Q) (hm : behindInMarks op c = false := by rfl) : WE X (.Compare a [op] [c] pos) ρ M Q := fun σ H at0 Qv l => by
  refine wp_pe (pe_cmpR or_wp pe_wp pe_wp hm) (h σ H at0 _ fun v1 d1 M1 H1 q1 m1 f1 r1 => ?_)
  refine q1 σ H1 (at0.step m1 f1) _ fun v2 d2 M2 H2 q2 m2 f2 r2 => ?_
  exact q2 H2 v1 v2 m2 (r1.mono f2) r2 _ (l.go (Ex.trans f1 f2))
theorem de_bin {a c : Expr} {op : Operator} {d1 d2 d : D} (h1 : DE X a ρ M d1 M1) (h2 : DE X c ρ M1 d2 M2) (h3 : WO X (binaryOp op) d1 d2 M2 fun d' M3 => d' = d ∧ M3 = M') : DE X (.BinOp a op c pos) ρ M d M' := we_bin (h1.to (h2.to h3))
theorem do_bin {a c : Expr} {op : Operator} {d1 d2 : D} {mo : MO} (h1 : DE X a ρ M d1 M1) (h2 : DE X c ρ M1 d2 M2) (h3 : WO X (binaryOp op) d1 d2 M2 fun d' M3 => ∃ p, d' = .ref p ∧ M3 = (p, mo) :: M') : DO X (.BinOp a op c pos) ρ M mo M' := we_bin (h1.to (h2.to h3))
theorem de_cmp {a c : Expr} {op : CmpOp} {d1 d2 d : D} (h1 : DE X a ρ M d1 M1) (h2 : DE X c ρ M1 d2 M2) (h3 : WO X (compareOp op) d1 d2 M2 fun d' M3 => d' = d ∧ M3 = M') (hm : behindInMarks op c = false := by rfl) : DE X (.Compare a [op] [c] pos) ρ M d M' := we_cmp (h1.to (h2.to h3)) hm
theorem wo_v {f : Value → Value → Sem Value} {r : R2} {d1 d2 : D} (p : OpR X f r) (h : ∀ H v1 v2, MSt (gx X) M H → Rp (gx X) (hid (adr M) H) v1 d1 → Rp (gx X) (hid (adr M) H) v2 d2 → ∀ Qv, Lft (gx X) M H Q Qv → r v1 v2 H Qv) : WO X f d1 d2 M Q :=
  fun H v1 v2 m r1 r2 Qv l => wp_or p (h H v1 v2 m r1 r2 Qv l)
/-- ints to a flat value -/
theorem wo_ii {f : Value → Value → Sem Value} {C : Int → Int → Prop} {g : Int → Int → V} {i j : Int} {d : D} (p : OpR X f (rI C g)) (c : C i j) (r : ∀ H, Rp (gx X) H (g i j) d) (q : Q d M) : WO X f (.int i) (.int j) M Q :=
  wo_v p fun H v1 v2 m r1 r2 Qv l => by cases r1; cases r2; exact ⟨i, j, rfl, rfl, c, l _ _ M H q m Fx.refl (r _)⟩
theorem wo_ii0 {f : Value → Value → Sem Value} {g : Int → Int → V} {i j : Int} {d : D} (p : OpR X f (rI0 g)) (r : ∀ H, Rp (gx X) H (g i j) d) (q : Q d M) : WO X f (.int i) (.int j) M Q :=
  wo_v p fun H v1 v2 m r1 r2 Qv l => by cases r1; cases r2; exact ⟨i, j, rfl, rfl, l _ _ M H q m Fx.refl (r _)⟩
section
variable {i j : Int}
theorem wo_add (q : Q (.int (i + j)) M) : WO X (binaryOp .Add) (.int i) (.int j) M Q := wo_ii0 op_add (fun _ => .int _) q
theorem wo_sub (q : Q (.int (i - j)) M) : WO X (binaryOp .Sub) (.int i) (.int j) M Q := wo_ii0 op_sub (fun _ => .int _) q
theorem op_mulAny : OpR X (binaryOp .Mult) (rI IntMulOk fun i j => .int (i * j)) := opI fun _ _ _ _ _ _ _ hc q => mul_int q hc
theorem wo_mul (c : IntMulOk i j) (q : Q (.int (i * j)) M) : WO X (binaryOp .Mult) (.int i) (.int j) M Q := wo_ii op_mulAny c (fun _ => .int _) q
theorem wo_fdiv (c : 0 < j ∧ j < 1073741824) (q : Q (.int (i / j)) M) : WO X (binaryOp .FloorDiv) (.int i) (.int j) M Q := wo_ii op_fdiv c (fun _ => .int _) q
theorem wo_mod (c : 0 < j) (q : Q (.int (i % j)) M) : WO X (binaryOp .Mod) (.int i) (.int j) M Q := wo_ii op_mod c (fun _ => .int _) q
theorem wo_pow (c : CPow i j) (q : Q (.int (i ^ j.toNat)) M) : WO X (binaryOp .Pow) (.int i) (.int j) M Q := wo_ii op_pow c (fun _ => .int _) q
theorem wo_lt (q : Q (.bl (decide (i < j))) M) : WO X (compareOp .Lt) (.int i) (.int j) M Q := wo_ii0 op_lt (fun _ => .bl _) q
theorem wo_le (q : Q (.bl (decide (i ≤ j))) M) : WO X (compareOp .LtE) (.int i) (.int j) M Q := wo_ii0 op_le (fun _ => .bl _) q
theorem wo_gt (q : Q (.bl (decide (j < i))) M) : WO X (compareOp .Gt) (.int i) (.int j) M Q := wo_ii0 op_gt (fun _ => .bl _) q
theorem wo_ge (q : Q (.bl (decide (j ≤ i))) M) : WO X (compareOp .GtE) (.int i) (.int j) M Q := wo_ii0 op_ge (fun _ => .bl _) q
theorem wo_eqi (q : Q (.bl (decide (i = j))) M) : WO X (compareOp .Eq) (.int i) (.int j) M Q := wo_v op_eq fun H v1 v2 m r1 r2 Qv l => by
  cases r1; cases r2
  refine ⟨rfl, l _ _ M H q m Fx.refl ?_⟩
  have e : decide (V.int i = V.int j) = decide (i = j) := by simp
  rw [e]; exact .bl _
theorem wo_nei (q : Q (.bl (!decide (i = j))) M) : WO X (compareOp .NotEq) (.int i) (.int j) M Q := wo_v op_ne fun H v1 v2 m r1 r2 Qv l => by
  cases r1; cases r2
  refine ⟨rfl, l _ _ M H q m Fx.refl ?_⟩
  have e : decide (V.int i = V.int j) = decide (i = j) := by simp
  rw [e]; exact .bl _
theorem wo_eqb {x y : Bool} (q : Q (.bl (x == y)) M) : WO X (compareOp .Eq) (.bl x) (.bl y) M Q := wo_v op_eq fun H v1 v2 m r1 r2 Qv l => by
  cases r1; cases r2
  refine ⟨rfl, l _ _ M H q m Fx.refl ?_⟩
  have e : decide (V.bl x = V.bl y) = (x == y) := by cases x <;> cases y <;> rfl
  rw [e]; exact .bl _
theorem wo_neb {x y : Bool} (q : Q (.bl (x != y)) M) : WO X (compareOp .NotEq) (.bl x) (.bl y) M Q := wo_v op_ne fun H v1 v2 m r1 r2 Qv l => by
  cases r1; cases r2
  refine ⟨rfl, l _ _ M H q m Fx.refl ?_⟩
  have e : (!decide (V.bl x = V.bl y)) = (x != y) := by cases x <;> cases y <;> rfl
  rw [e]; exact .bl _
end
def isNonD : D → Bool
  | .non => true
  | _ => false
theorem rp_non {G : GX} {H : Hp} {v : V} {d : D} (r : Rp G H v d) : decide (v = .non) = isNonD d := by
  cases r <;> first | rfl | exact decide_eq_false (fun e => nomatch e)
theorem wo_isN {d : D} (q : Q (.bl (isNonD d)) M) : WO X (compareOp .Is) d .non M Q := wo_v op_isN fun H v1 v2 m r1 r2 Qv l => by
  cases r2
  rw [rp_non r1]
  exact ⟨rfl, l _ _ M H q m Fx.refl (.bl _)⟩
theorem wo_notN {d : D} (q : Q (.bl (!isNonD d)) M) : WO X (compareOp .IsNot) d .non M Q := wo_v op_notN fun H v1 v2 m r1 r2 Qv l => by
  cases r2
  rw [rp_non r1]
  exact ⟨rfl, l _ _ M H q m Fx.refl (.bl _)⟩
/-! ### sequences by what is to be read -/
inductive Sq (M : MS) : D → List D → Prop
  | tup {ds : List D} : Sq M (.tup ds) ds
  | lst {ds : List D} : Sq M (.lst ds) ds
  | ref {p : Addr} {ds : List D} (k : Nat) (h : M[k]? = some (p, .lst ds)) : Sq M (.ref p) ds
  | tupN {ds : List D} : Sq M (.tupN ds) ds
theorem Sq.v {d : D} {ds : List D} (s : Sq M d ds) {H : Hp} {v : V} (m : MSt (gx X) M H) (r : Rp (gx X) (hid (adr M) H) v d) : ∃ p vs, v = .ref p ∧ (SqL X.K H p vs ∨ SqT X.K H p vs) ∧ RpA (gx X) (hid (adr M) H) vs ds := by
  cases s with
  | tup => cases r with | tup h1 h2 => exact ⟨_, _, rfl, .inr (ex_t hid_ex h1), h2⟩
  | tupN => cases r with | tupN h1 h0 h2 => exact ⟨_, _, rfl, .inr (.inl (.inr ⟨_, hid_ex _ _ h1⟩)), h2⟩
  | lst => cases r with | lst h1 h2 => exact ⟨_, _, rfl, .inl (sq_of (hid_ex _ _ h1)), h2⟩
  | ref k h =>
    cases r
    obtain ⟨o, h1, vs, e, h2⟩ := m.at h
    subst e
    exact ⟨_, vs, rfl, .inl (sq_of h1), h2⟩
/-- a list that stands by itself (not the module's) -/
inductive SqO (M : MS) : D → List D → Prop
  | lst {ds : List D} : SqO M (.lst ds) ds
  | ref {p : Addr} {ds : List D} (k : Nat) (h : M[k]? = some (p, .lst ds)) : SqO M (.ref p) ds
theorem SqO.v {d : D} {ds : List D} (s : SqO M d ds) {H : Hp} {v : V} (m : MSt (gx X) M H) (r : Rp (gx X) (hid (adr M) H) v d) : ∃ p vs, v = .ref p ∧ H p = some (.lst vs) ∧ RpA (gx X) (hid (adr M) H) vs ds := by
  cases s with
  | lst => cases r with | lst h1 h2 => exact ⟨_, _, rfl, hid_ex _ _ h1, h2⟩
  | ref k h =>
    cases r
    obtain ⟨o, h1, vs, e, h2⟩ := m.at h
    subst e
    exact ⟨_, vs, rfl, h1, h2⟩
theorem wo_cat {d1 d2 : D} {as bs : List D} (s1 : SqO M d1 as) (s2 : SqO M d2 bs) (z : as.length + bs.length ≤ 10000000) (q : ∀ p, Q (.ref p) ((p, .lst (as ++ bs)) :: M)) : WO X (binaryOp .Add) d1 d2 M Q := wo_v op_cat fun H v1 v2 m r1 r2 Qv l => by
  obtain ⟨p1, vs1, rfl, h1, a1⟩ := s1.v m r1
  obtain ⟨p2, vs2, rfl, h2, a2⟩ := s2.v m r2
  exact ⟨p1, p2, vs1, vs2, rfl, rfl, h1, h2, by rw [a1.len, a2.len]; exact Nat.le_trans z (by decide), fun p hp => new_lst l m (a1.app a2) q hp⟩
theorem wo_catT {as bs : List D} (z : as.length + bs.length ≤ 100000) (q : Q (.tup (as ++ bs)) M) : WO X (binaryOp .Add) (.tup as) (.tup bs) M Q := wo_v op_catA fun H v1 v2 m r1 r2 Qv l => by
  cases r1 with
  | tup h1 a1 =>
    cases r2 with
    | tup h2 a2 =>
      refine ⟨_, _, _, _, rfl, rfl, ex_t hid_ex h1, ex_t hid_ex h2, by rw [a1.len, a2.len]; exact sz_of z, fun e => ?_, fun _ e => ?_, fun _ _ p hp => ?_⟩
      · subst e
        cases a1
        exact l _ _ M H q m Fx.refl (.tup h2 a2)
      · subst e
        cases a2
        rw [List.append_nil] at q
        exact l _ _ M H q m Fx.refl (.tup h1 a1)
      · exact new_tup l m (a1.app a2) q hp
theorem RpA.repl {G : GX} {H : Hp} {vs : List V} {ds : List D} (r : RpA G H vs ds) : ∀ n : Nat, RpA G H (List.replicate n vs).flatten (List.replicate n ds).flatten
  | 0 => .nil
  | n + 1 => by rw [List.replicate_succ, List.replicate_succ, List.flatten_cons, List.flatten_cons]; exact r.app (RpA.repl r n)
theorem wo_rep {d1 : D} {as : List D} {i : Int} (s1 : SqO M d1 as) (z : as.length * i.toNat ≤ 100000) (c : -1000 ≤ i ∧ i ≤ 100000) (q : ∀ p, Q (.ref p) ((p, .lst (List.replicate i.toNat as).flatten) :: M)) : WO X (binaryOp .Mult) d1 (.int i) M Q := wo_v op_rep fun H v1 v2 m r1 r2 Qv l => by
  obtain ⟨p1, vs1, rfl, h1, a1⟩ := s1.v m r1
  cases r2
  exact ⟨p1, i, vs1, rfl, rfl, h1, by omega, by omega, by rw [a1.len]; exact sz_of z, fun p hp => new_lst l m (a1.repl _) q hp⟩
theorem wo_repT {as : List D} {i : Int} (n0 : as ≠ []) (z : as.length ≤ 1000) (c : 2 ≤ i ∧ i ≤ 1000) (q : Q (.tup (List.replicate i.toNat as).flatten) M) : WO X (binaryOp .Mult) (.tup as) (.int i) M Q := wo_v op_repT fun H v1 v2 m r1 r2 Qv l => by
  cases r1 with
  | tup h1 a1 =>
    cases r2
    refine ⟨_, i, _, rfl, rfl, ex_t hid_ex h1, fun e => ?_, c.1, c.2, by rw [a1.len]; exact z, fun p hp => new_tup l m (a1.repl _) q hp⟩
    subst e
    cases a1
    exact n0 rfl
/-! ### data without mutable parts: == and in -/
mutual
def toPy : D → PyData
  | .non => .none
  | .bl b => .bool b
  | .int i => .int i
  | .str x => .str x
  | .tup ds => .tuple (toPys ds)
  | .lst ds => .list (toPys ds)
  | .dic _ => .none
  | .dik _ => .none
  | .ref _ => .none
  | .ty _ => .none
  | .lsK _ => .none
  | .tupN ds => .tuple (toPys ds)
def toPys : List D → List PyData
  | [] => []
  | d :: ds => toPy d :: toPys ds
end
theorem toPys_map : ∀ ds : List D, toPys ds = ds.map toPy
  | [] => by simp [toPys]
  | d :: ds => by rw [toPys, toPys_map ds, List.map_cons]
def eqD (a b : D) : Bool := PyData.eqv (toPy a) (toPy b)
/-- plain data, nested at most n deep -/
def datB : Nat → D → Bool
  | _, .non => true
  | _, .bl _ => true
  | _, .int _ => true
  | _, .str x => PyData.strOk x
  | n + 1, .tup ds => ds.all (datB n)
  | n + 1, .lst ds => ds.all (datB n)
  | n + 1, .tupN ds => ds.all (datB n)
  | _, _ => false
end
end DL

set_option maxHeartbeats 2000000
/-! DL: equality, membership, subscripts, slices, tests, and, or, not, if-else. -/
namespace DL
open PySem PySem.Spec PyProof.Rows L2 Evl

theorem datB_le : ∀ {m n : Nat} {d : D}, m ≤ n → datB m d = true → datB n d = true
  | 0, _, .non, _, _ => by simp [datB]
  | 0, _, .bl _, _, _ => by simp [datB]
  | 0, _, .int _, _, _ => by simp [datB]
  | 0, n, .str x, _, h => by
    cases n <;> simpa [datB] using h
  | _ + 1, _ + 1, .non, _, _ => by simp [datB]
  | _ + 1, _ + 1, .bl _, _, _ => by simp [datB]
  | _ + 1, _ + 1, .int _, _, _ => by simp [datB]
  | _ + 1, _ + 1, .str x, _, h => by simpa [datB] using h
  | m + 1, n + 1, .tup ds, l, h => by
    simp only [datB, List.all_eq_true] at h ⊢
    exact fun d hd => datB_le (Nat.le_of_succ_le_succ l) (h d hd)
  | m + 1, n + 1, .tupN ds, l, h => by
    simp only [datB, List.all_eq_true] at h ⊢
    exact fun d hd => datB_le (Nat.le_of_succ_le_succ l) (h d hd)
  | m + 1, n + 1, .lst ds, l, h => by
    simp only [datB, List.all_eq_true] at h ⊢
    exact fun d hd => datB_le (Nat.le_of_succ_le_succ l) (h d hd)
section
variable {G : GX} {H : Hp}
mutual
theorem rp_dp : ∀ {n : Nat} {d : D} {v : V}, datB n d = true → Rp G H v d → Dp G.K H v (toPy d)
  | _, _, _, _, .non => by simp only [toPy]; exact .non
  | _, _, _, _, .bl b => by simp only [toPy]; exact .bl b
  | _, _, _, _, .int i => by simp only [toPy]; exact .int i
  | _, _, _, _, .str x => by simp only [toPy]; exact .str x
  | 0, _, _, h, .tup _ _ => by simp [datB] at h
  | 0, _, _, h, .lst _ _ => by simp [datB] at h
  | n + 1, _, _, h, .tup s a => by
    simp only [toPy]
    exact .tup s (rp_dps (by simpa [datB] using h) a)
  | n + 1, _, _, h, .lst s a => by
    simp only [toPy]
    exact .lst (.inl (.inl s)) (rp_dps (by simpa [datB] using h) a)
  | 0, _, _, h, .ref _ => by simp [datB] at h
  | n + 1, _, _, h, .ref _ => by simp [datB] at h
  | 0, _, _, h, .dic _ _ _ => by simp [datB] at h
  | n + 1, _, _, h, .dic _ _ _ => by simp [datB] at h
  | 0, _, _, h, .dik _ _ => by simp [datB] at h
  | n + 1, _, _, h, .dik _ _ => by simp [datB] at h
  | 0, _, _, h, .ty _ => by simp [datB] at h
  | n + 1, _, _, h, .ty _ => by simp [datB] at h
  | 0, _, _, h, .lsK _ _ => by simp [datB] at h
  | n + 1, _, _, h, .lsK _ _ => by simp [datB] at h
  | 0, _, _, h, .tupN _ _ _ => by simp [datB] at h
  | n + 1, _, _, h, .tupN s _ a => by
    simp only [toPy]
    exact .tup (.inl (.inr ⟨_, s⟩)) (rp_dps (by simpa [datB] using h) a)
theorem rp_dps : ∀ {n : Nat} {ds : List D} {vs : List V}, (∀ d ∈ ds, datB n d = true) → RpA G H vs ds → DpAll G.K H vs (toPys ds)
  | _, _, _, _, .nil => by simp only [toPys]; exact .nil
  | _, _, _, h, .cons r a => by
    simp only [toPys]
    exact .cons (rp_dp (h _ List.mem_cons_self) r) (rp_dps (fun d hd => h d (List.mem_cons_of_mem _ hd)) a)
end
end
theorem toPys_len (ds : List D) : (toPys ds).length = ds.length := by rw [toPys_map, List.length_map]
mutual
theorem lay_py : ∀ {n : Nat} {d : D}, datB n d = true → (toPy d).canLay0 = true ∧ (toPy d).depth ≤ n
  | _, .non, _ => by simp [toPy, PyData.canLay0, PyData.depth]
  | _, .bl _, _ => by simp [toPy, PyData.canLay0, PyData.depth]
  | _, .int _, _ => by simp [toPy, PyData.canLay0, PyData.depth]
  | 0, .str x, h => by simpa [toPy, PyData.canLay0, PyData.depth, datB] using h
  | _ + 1, .str x, h => by simpa [toPy, PyData.canLay0, PyData.depth, datB] using h
  | 0, .tup _, h => by simp [datB] at h
  | 0, .lst _, h => by simp [datB] at h
  | n + 1, .tup ds, h => by
    have q := lays_py (n := n) (ds := ds) (by simpa [datB] using h)
    simp only [toPy, PyData.canLay0, PyData.depth]
    exact ⟨q.1, Nat.succ_le_succ q.2⟩
  | n + 1, .lst ds, h => by
    have q := lays_py (n := n) (ds := ds) (by simpa [datB] using h)
    simp only [toPy, PyData.canLay0, PyData.depth]
    exact ⟨q.1, Nat.succ_le_succ q.2⟩
  | 0, .ref _, h => by simp [datB] at h
  | _ + 1, .ref _, h => by simp [datB] at h
  | 0, .dic _, h => by simp [datB] at h
  | _ + 1, .dic _, h => by simp [datB] at h
  | 0, .dik _, h => by simp [datB] at h
  | _ + 1, .dik _, h => by simp [datB] at h
  | 0, .ty _, h => by simp [datB] at h
  | _ + 1, .ty _, h => by simp [datB] at h
  | 0, .lsK _, h => by simp [datB] at h
  | _ + 1, .lsK _, h => by simp [datB] at h
  | 0, .tupN _, h => by simp [datB] at h
  | n + 1, .tupN ds, h => by
    have q := lays_py (n := n) (ds := ds) (by simpa [datB] using h)
    simp only [toPy, PyData.canLay0, PyData.depth]
    exact ⟨q.1, Nat.succ_le_succ q.2⟩
theorem lays_py : ∀ {n : Nat} {ds : List D}, (∀ d ∈ ds, datB n d = true) → PyData.canLayAll0 (toPys ds) = true ∧ PyData.depthAll (toPys ds) ≤ n
  | _, [], _ => by simp [toPys, PyData.canLayAll0, PyData.depthAll]
  | n, d :: ds, h => by
    have q := lay_py (h d List.mem_cons_self)
    have q2 := lays_py (n := n) (ds := ds) fun e he => h e (List.mem_cons_of_mem _ he)
    simp only [toPys, PyData.canLayAll0, PyData.depthAll, Bool.and_eq_true]
    exact ⟨⟨q.1, q2.1⟩, Nat.max_le.mpr ⟨q.2, q2.2⟩⟩
end
theorem shaped_py {n : Nat} {d : D} (hn : n ≤ 64) (h : datB n d = true) : SeqAt.shaped (toPy d) = true := by
  have q := lay_py h
  unfold SeqAt.shaped
  rw [q.1, decide_eq_true (Nat.le_trans q.2 hn)]
  rfl
/-- what a thing is to the reader -/
inductive Vw (M : MS) : D → D → Prop
  | id {d : D} : Vw M d d
  | ref {p : Addr} {mo : MO} (k : Nat) (h : M[k]? = some (p, mo)) : Vw M (.ref p) mo.frz
section
variable {X : Cx} {N : List Str} {sc : Scope} {k : Nat} {b : Bool} {ρ : EnvD} {M M1 M2 M' : MS} {pos : Pos} {Q : D → MS → Prop}
/-- in the whole heap -/
theorem Vw.rp {d d' : D} (w : Vw M d d') {G : GX} {H : Hp} {v : V} (m : MSt G M H) (r : Rp G (hid (adr M) H) v d) : Rp G H v d' := by
  cases w with
  | id => exact r.mono hid_ex
  | ref k h =>
    cases r
    obtain ⟨o, h1, h2⟩ := m.at h
    exact MCt.rp h1 (h2.mono hid_ex)
theorem wo_eqD (h : XOk X N sc k b) {d1 d2 e1 e2 : D} (w1 : Vw M d1 e1) (w2 : Vw M d2 e2) (g1 : datB 60 e1 = true) (g2 : datB 60 e2 = true) (q : Q (.bl (eqD e1 e2)) M) : WO X (compareOp .Eq) d1 d2 M Q := wo_v (op_eqD h.un64) fun H v1 v2 m r1 r2 Qv l =>
  ⟨_, _, rp_dp g1 (w1.rp m r1), rp_dp g2 (w2.rp m r2), shaped_py (by decide) g1, shaped_py (by decide) g2, l _ _ M H q m Fx.refl (.bl _)⟩
theorem wo_neD (h : XOk X N sc k b) {d1 d2 e1 e2 : D} (w1 : Vw M d1 e1) (w2 : Vw M d2 e2) (g1 : datB 60 e1 = true) (g2 : datB 60 e2 = true) (q : Q (.bl (!eqD e1 e2)) M) : WO X (compareOp .NotEq) d1 d2 M Q := wo_v (op_neD h.un64) fun H v1 v2 m r1 r2 Qv l =>
  ⟨_, _, rp_dp g1 (w1.rp m r1), rp_dp g2 (w2.rp m r2), shaped_py (by decide) g1, shaped_py (by decide) g2, l _ _ M H q m Fx.refl (.bl _)⟩
def anyD (ds : List D) (d : D) : Bool := ds.any fun z => eqD z d
theorem any_py (ds : List D) (d : D) : (toPys ds).any (fun y => PyData.eqv y (toPy d)) = anyD ds d := by
  rw [toPys_map, List.any_map]
  rfl
def rInA (K : PySem.W.Frag) (neg : Bool) : R2 := fun x y H Q => ∃ d ds, Dp K H x d ∧ (Dp K H y (.list ds) ∨ Dp K H y (.tuple ds)) ∧ SeqAt.shaped d = true ∧ PyData.canLayAll0 ds = true ∧ Q (.bl (if neg then !(ds.any fun z => PyData.eqv z d) else ds.any fun z => PyData.eqv z d)) H
theorem op_inA (hu : X.A.units + 65 < cLine) : OpR X (compareOp .In) (rInA X.K false) := fun pins s σ H x y v u Q I rx ry ⟨d, ds, hd, he, sd, se, q⟩ => by
  obtain ⟨as, r1⟩ := Dp.reads I d x v hd rx
  rcases he with he | he
  · obtain ⟨bs, r2⟩ := Dp.reads I _ y u he ry
    exact SeqAt.in_list_reads r2 r1 se (SeqAt.canLay_of_shaped sd) (room_in_shaped sd hu) ⟨.bl _, H, I, rfl, q⟩
  · obtain ⟨bs, r2⟩ := Dp.reads I _ y u he ry
    exact SeqAt.in_tuple_reads r2 r1 se (SeqAt.canLay_of_shaped sd) (room_in_shaped sd hu) ⟨.bl _, H, I, rfl, q⟩
theorem op_ninA (hu : X.A.units + 65 < cLine) : OpR X (compareOp .NotIn) (rInA X.K true) := fun pins s σ H x y v u Q I rx ry ⟨d, ds, hd, he, sd, se, q⟩ => by
  obtain ⟨as, r1⟩ := Dp.reads I d x v hd rx
  rcases he with he | he
  · obtain ⟨bs, r2⟩ := Dp.reads I _ y u he ry
    exact SeqAt.notIn_list_reads r2 r1 se (SeqAt.canLay_of_shaped sd) (room_in_shaped sd hu) ⟨.bl _, H, I, rfl, q⟩
  · obtain ⟨bs, r2⟩ := Dp.reads I _ y u he ry
    exact SeqAt.notIn_tuple_reads r2 r1 se (SeqAt.canLay_of_shaped sd) (room_in_shaped sd hu) ⟨.bl _, H, I, rfl, q⟩
theorem XOk.un65 (h : XOk X N sc k b) : X.A.units + 65 < cLine := by have := h.room.un; omega
theorem Sq.dp {d : D} {ds : List D} (s : Sq M d ds) {G : GX} {H : Hp} {v : V} {n : Nat} (m : MSt G M H) (r : Rp G (hid (adr M) H) v d) (g : ∀ e ∈ ds, datB n e = true) : Dp G.K H v (.list (toPys ds)) ∨ Dp G.K H v (.tuple (toPys ds)) := by
  cases s with
  | tup => cases r with | tup h1 h2 => exact .inr (.tup (ex_t hid_ex h1) (rp_dps g (h2.mono hid_ex)))
  | lst => cases r with | lst h1 h2 => exact .inl (.lst (sq_of (hid_ex _ _ h1)) (rp_dps g (h2.mono hid_ex)))
  | tupN => cases r with | tupN h1 h0 h2 => exact .inr (.tup (.inl (.inr ⟨_, hid_ex _ _ h1⟩)) (rp_dps g (h2.mono hid_ex)))
  | ref k h =>
    cases r
    obtain ⟨o, h1, vs, e, h2⟩ := m.at h
    subst e
    exact .inl (.lst (sq_of h1) (rp_dps g (h2.mono hid_ex)))
theorem wo_in (h : XOk X N sc k b) {d1 d2 e1 : D} {ds : List D} (w1 : Vw M d1 e1) (s : Sq M d2 ds) (g1 : datB 60 e1 = true) (g2 : ∀ e ∈ ds, datB 60 e = true) (q : Q (.bl (anyD ds e1)) M) : WO X (compareOp .In) d1 d2 M Q := wo_v (op_inA h.un65) fun H v1 v2 m r1 r2 Qv l =>
  ⟨_, _, rp_dp g1 (w1.rp m r1), s.dp m r2 g2, shaped_py (by decide) g1, (lays_py g2).1, by rw [any_py]; exact l _ _ M H q m Fx.refl (.bl _)⟩
theorem wo_nin (h : XOk X N sc k b) {d1 d2 e1 : D} {ds : List D} (w1 : Vw M d1 e1) (s : Sq M d2 ds) (g1 : datB 60 e1 = true) (g2 : ∀ e ∈ ds, datB 60 e = true) (q : Q (.bl (!anyD ds e1)) M) : WO X (compareOp .NotIn) d1 d2 M Q := wo_v (op_ninA h.un65) fun H v1 v2 m r1 r2 Qv l =>
  ⟨_, _, rp_dp g1 (w1.rp m r1), s.dp m r2 g2, shaped_py (by decide) g1, (lays_py g2).1, by rw [any_py]; exact l _ _ M H q m Fx.refl (.bl _)⟩

/-! ### subscripts of sequences -/
def rIxA (K : PySem.W.Frag) : R2 := fun x y H Q => rIxL K x y H Q ∨ rIxT K x y H Q
theorem ix_any : IxR X (rIxA X.K) := fun value slice pins s σ H x y v u Q I rx ry q hs => by
  rcases q with q | q
  · exact ix_list value slice pins s σ H x y v u Q I rx ry q hs
  · exact ix_tup value slice pins s σ H x y v u Q I rx ry q hs
theorem RpA.atI {G : GX} {H : Hp} {vs : List V} {ds : List D} {i : Int} {d : D} (r : RpA G H vs ds) (h : L2.atI ds i = some d) : ∃ v, L2.atI vs i = some v ∧ Rp G H v d := by
  unfold L2.atI at h ⊢
  rw [r.len]
  obtain ⟨j, h1, h2⟩ := Option.bind_eq_some_iff.mp h
  obtain ⟨v, h3, h4⟩ := r.get h2
  exact ⟨v, by rw [h1]; exact h3, h4⟩
theorem we_ix {a c : Expr} (h : WE X a ρ M fun d1 M1 => WE X c ρ M1 fun d2 M2 => ∃ ds i d, Sq M2 d1 ds ∧ d2 = .int i ∧ L2.atI ds i = some d ∧ Q d M2) (hs : PlainIx c := by exact fun _ _ => rfl) : WE X (.Subscript a c pos) ρ M Q := fun σ H at0 Qv l => by
  refine wp_pe (pe_ix ix_any pe_wp pe_wp hs) (h σ H at0 _ fun v1 d1 M1 H1 q1 m1 f1 r1 => ?_)
  refine q1 σ H1 (at0.step m1 f1) _ fun v2 d2 M2 H2 ⟨ds, i, d, s, e2, e3, q2⟩ m2 f2 r2 => ?_
  subst e2
  cases r2
  obtain ⟨p, vs, rfl, hq, ra⟩ := s.v (X := X) m2 (r1.mono f2)
  obtain ⟨v, e4, r4⟩ := ra.atI e3
  have fin := l v d M2 H2 q2 m2 (Ex.trans f1 f2) r4
  rcases hq with hq | hq
  · exact .inl ⟨p, vs, i, v, rfl, rfl, hq, e4, fin⟩
  · exact .inr ⟨p, vs, i, v, rfl, rfl, hq, e4, fin⟩
theorem de_ix {a c : Expr} {d1 d : D} {i : Int} {ds : List D} (h1 : DE X a ρ M d1 M1) (h2 : DE X c ρ M1 (.int i) M2) (s : Sq M2 d1 ds) (e : L2.atI ds i = some d) (hs : PlainIx c := by exact fun _ _ => rfl) : DE X (.Subscript a c pos) ρ M d M2 :=
  we_ix (h1.to (h2.to ⟨ds, i, d, s, rfl, e, rfl, rfl⟩)) hs

/-! ### tests -/
theorem wt_val {e : Expr} {Q : Bool → MS → Prop} (h : WE X e ρ M fun d M' => ∃ c, d = .bl c ∧ Q c M') (he : ∀ whole, isTrue e X.env whole = (do let v ← whole; standAt e.pos; holding [v] (truthy v)) := by intro _; rfl) : WT X e ρ M Q := fun σ H at0 Qv l =>
  wp_pt (pt_val pe_wp he) (h σ H at0 _ fun v d M' H' ⟨c, e1, q⟩ m f r => by subst e1; cases r; exact ⟨c, rfl, l c M' H' q m f⟩)
theorem dt_val {e : Expr} {c : Bool} (h : DE X e ρ M (.bl c) M') (he : ∀ whole, isTrue e X.env whole = (do let v ← whole; standAt e.pos; holding [v] (truthy v)) := by intro _; rfl) : DT X e ρ M c M' := wt_val (h.to ⟨c, rfl, rfl, rfl⟩) he
theorem wt_cmp {a c : Expr} {op : CmpOp} {Q : Bool → MS → Prop} (h : WE X a ρ M fun d1 M1 => WE X c ρ M1 fun d2 M2 => WO X (compareOp op) d1 d2 M2 fun d M3 => ∃ t, d = .bl t ∧ Q t M3) (hm : behindInMarks op c = false := by rfl) : WT X (.Compare a [op] [c] pos) ρ M Q := fun σ H at0 Qv l => by
  refine wp_pt (pt_cmpR or_wp pe_wp pe_wp hm) (h σ H at0 _ fun v1 d1 M1 H1 q1 m1 f1 r1 => ?_)
  refine q1 σ H1 (at0.step m1 f1) _ fun v2 d2 M2 H2 q2 m2 f2 r2 => ?_
  refine q2 H2 v1 v2 m2 (r1.mono f2) r2 _ fun v3 d3 M3 H3 ⟨t, e3, q3⟩ m3 f3 r3 => ?_
  subst e3
  cases r3
  exact ⟨t, rfl, l t M3 H3 q3 m3 (Ex.trans f1 (Ex.trans f2 f3))⟩
theorem dt_cmp {a c : Expr} {op : CmpOp} {d1 d2 : D} {t : Bool} (h1 : DE X a ρ M d1 M1) (h2 : DE X c ρ M1 d2 M2) (h3 : WO X (compareOp op) d1 d2 M2 fun d' M3 => d' = .bl t ∧ M3 = M') (hm : behindInMarks op c = false := by rfl) : DT X (.Compare a [op] [c] pos) ρ M t M' :=
  wt_cmp (h1.to (h2.to fun H v1 v2 m r1 r2 Qv l => h3 H v1 v2 m r1 r2 Qv fun v d M3 H3 ⟨a, e⟩ => l v d M3 H3 ⟨t, a, rfl, e⟩)) hm
/-- and, or whatever the whole is -/
@[irreducible] def wpW (X : Cx) (e : Expr) : TT := fun σ H Q => ∀ (whole : Sem Value) pins s, Inv X pins σ H s → wpAny (model X.prog X.w) X.A (isTrue e X.env whole) (TP X pins σ Q) X.xe s
theorem pw_wp {e : Expr} : PW X e (wpW X e) := ⟨fun wh pins s _ _ _ I h => by unfold wpW at h; exact h wh pins s I⟩
theorem wp_pw {e : Expr} {t : TT} (p : PW X e t) {σ : L2.St} {H : Hp} {Q : Bool → Hp → Prop} (h : t σ H Q) : wpW X e σ H Q := by unfold wpW; exact fun wh pins s I => p.run wh pins s σ H Q I h
def WW (X : Cx) (e : Expr) (ρ : EnvD) (M : MS) (Q : Bool → MS → Prop) : Prop := ∀ σ H, At (gx X) ρ M σ H → ∀ Qv, LftT (gx X) M H Q Qv → wpW X e σ H Qv
theorem WW.wt {e : Expr} {Q : Bool → MS → Prop} (h : WW X e ρ M Q) : WT X e ρ M Q := fun σ H a Qv l => wp_pt (PW.pt pw_wp) (h σ H a Qv l)
theorem ww_and1 {a : Expr} {Q : Bool → MS → Prop} (h : WT X a ρ M Q) : WW X (.BoolOp .And [a] pos) ρ M Q := fun σ H at0 Qv l => wp_pw (pw_and1 pt_wp) (h σ H at0 Qv l)
theorem ww_or1 {a : Expr} {Q : Bool → MS → Prop} (h : WT X a ρ M Q) : WW X (.BoolOp .Or [a] pos) ρ M Q := fun σ H at0 Qv l => wp_pw (pw_or1 pt_wp) (h σ H at0 Qv l)
theorem ww_and {a c : Expr} {rest : List Expr} {Q : Bool → MS → Prop} (h : WT X a ρ M fun t M1 => (t = true → WW X (.BoolOp .And (c :: rest) pos) ρ M1 Q) ∧ (t = false → Q false M1)) : WW X (.BoolOp .And (a :: c :: rest) pos) ρ M Q := fun σ H at0 Qv l => by
  refine wp_pw (pw_and pt_wp pw_wp) (h σ H at0 _ fun t M1 H1 ⟨q1, q2⟩ m1 f1 => ?_)
  cases t with
  | true => rw [if_pos rfl]; exact q1 rfl σ H1 (at0.step m1 f1) Qv (l.go f1)
  | false => rw [if_neg Bool.false_ne_true]; exact l false M1 H1 (q2 rfl) m1 f1
theorem ww_or {a c : Expr} {rest : List Expr} {Q : Bool → MS → Prop} (h : WT X a ρ M fun t M1 => (t = false → WW X (.BoolOp .Or (c :: rest) pos) ρ M1 Q) ∧ (t = true → Q true M1)) : WW X (.BoolOp .Or (a :: c :: rest) pos) ρ M Q := fun σ H at0 Qv l => by
  refine wp_pw (pw_or pt_wp pw_wp) (h σ H at0 _ fun t M1 H1 ⟨q1, q2⟩ m1 f1 => ?_)
  cases t with
  | false => rw [if_neg Bool.false_ne_true]; exact q1 rfl σ H1 (at0.step m1 f1) Qv (l.go f1)
  | true => rw [if_pos rfl]; exact l true M1 H1 (q2 rfl) m1 f1
def DW (X : Cx) (e : Expr) (ρ : EnvD) (M : MS) (t : Bool) (M' : MS) : Prop := WW X e ρ M fun b M2 => b = t ∧ M2 = M'
theorem DW.dt {e : Expr} {t : Bool} (h : DW X e ρ M t M') : DT X e ρ M t M' := WW.wt h
theorem WW.imp {e : Expr} {Q Q' : Bool → MS → Prop} (h : WW X e ρ M Q) (q : ∀ d M', Q d M' → Q' d M') : WW X e ρ M Q' := fun σ H a Qv l => h σ H a Qv fun d M' H' z => l d M' H' (q _ _ z)
theorem dw_and1 {a : Expr} {t : Bool} (h : DT X a ρ M t M') : DW X (.BoolOp .And [a] pos) ρ M t M' := ww_and1 h
theorem dw_or1 {a : Expr} {t : Bool} (h : DT X a ρ M t M') : DW X (.BoolOp .Or [a] pos) ρ M t M' := ww_or1 h
/-- pure ones -/
theorem dw_and {a c : Expr} {rest : List Expr} {t u : Bool} (h1 : DT X a ρ M t M) (h2 : t = true → DW X (.BoolOp .And (c :: rest) pos) ρ M u M) : DW X (.BoolOp .And (a :: c :: rest) pos) ρ M (t && u) M :=
  ww_and (h1.to ⟨fun e => (h2 e).imp fun d M' ⟨a, b⟩ => ⟨by rw [a, e, Bool.true_and], b⟩, fun e => ⟨by rw [e, Bool.false_and], rfl⟩⟩)
theorem dw_or {a c : Expr} {rest : List Expr} {t u : Bool} (h1 : DT X a ρ M t M) (h2 : t = false → DW X (.BoolOp .Or (c :: rest) pos) ρ M u M) : DW X (.BoolOp .Or (a :: c :: rest) pos) ρ M (t || u) M :=
  ww_or (h1.to ⟨fun e => (h2 e).imp fun d M' ⟨a, b⟩ => ⟨by rw [a, e, Bool.false_or], b⟩, fun e => ⟨by rw [e, Bool.true_or], rfl⟩⟩)
theorem wt_not {a : Expr} {Q : Bool → MS → Prop} (h : WT X a ρ M fun t M' => Q (!t) M') : WT X (.UnaryOp .Not a pos) ρ M Q := fun σ H at0 Qv l => wp_pt (pt_not pt_wp) (h σ H at0 _ fun t M' H' q m f => l _ M' H' q m f)
theorem dt_not {a : Expr} {t : Bool} (h : DT X a ρ M t M') : DT X (.UnaryOp .Not a pos) ρ M (!t) M' := wt_not (h.to ⟨rfl, rfl⟩)
/-! ### as values -/
theorem we_one {a : Expr} {op} (h : WE X a ρ M Q) : WE X (.BoolOp op [a] pos) ρ M Q := fun σ H at0 Qv l => wp_pe (pe_one pe_wp) (h σ H at0 Qv l)
theorem we_and {a c : Expr} {rest : List Expr} (h : WE X a ρ M fun d M1 => ∃ t, d = .bl t ∧ (t = true → WE X (.BoolOp .And (c :: rest) pos) ρ M1 Q) ∧ (t = false → Q (.bl false) M1)) : WE X (.BoolOp .And (a :: c :: rest) pos) ρ M Q := fun σ H at0 Qv l => by
  refine wp_pe (pe_and pe_wp pe_wp) (h σ H at0 _ fun v d M1 H1 ⟨t, e, q1, q2⟩ m1 f1 r1 => ?_)
  subst e
  cases r1
  refine ⟨t, rfl, ?_⟩
  cases t with
  | true => rw [if_pos rfl]; exact q1 rfl σ H1 (at0.step m1 f1) Qv (l.go f1)
  | false => rw [if_neg Bool.false_ne_true]; exact l _ _ M1 H1 (q2 rfl) m1 f1 (.bl _)
theorem we_or {a c : Expr} {rest : List Expr} (h : WE X a ρ M fun d M1 => ∃ t, d = .bl t ∧ (t = false → WE X (.BoolOp .Or (c :: rest) pos) ρ M1 Q) ∧ (t = true → Q (.bl true) M1)) : WE X (.BoolOp .Or (a :: c :: rest) pos) ρ M Q := fun σ H at0 Qv l => by
  refine wp_pe (pe_or pe_wp pe_wp) (h σ H at0 _ fun v d M1 H1 ⟨t, e, q1, q2⟩ m1 f1 r1 => ?_)
  subst e
  cases r1
  refine ⟨t, rfl, ?_⟩
  cases t with
  | false => rw [if_neg Bool.false_ne_true]; exact q1 rfl σ H1 (at0.step m1 f1) Qv (l.go f1)
  | true => rw [if_pos rfl]; exact l _ _ M1 H1 (q2 rfl) m1 f1 (.bl _)
theorem de_one {a : Expr} {op} {d : D} (h : DE X a ρ M d M') : DE X (.BoolOp op [a] pos) ρ M d M' := we_one h
theorem de_and {a c : Expr} {rest : List Expr} {t u : Bool} (h1 : DE X a ρ M (.bl t) M) (h2 : t = true → DE X (.BoolOp .And (c :: rest) pos) ρ M (.bl u) M) : DE X (.BoolOp .And (a :: c :: rest) pos) ρ M (.bl (t && u)) M :=
  we_and (h1.to ⟨t, rfl, fun e => (h2 e).imp fun d M' ⟨a, b⟩ => ⟨by rw [a, e, Bool.true_and], b⟩, fun e => ⟨by rw [e, Bool.false_and], rfl⟩⟩)
theorem de_or {a c : Expr} {rest : List Expr} {t u : Bool} (h1 : DE X a ρ M (.bl t) M) (h2 : t = false → DE X (.BoolOp .Or (c :: rest) pos) ρ M (.bl u) M) : DE X (.BoolOp .Or (a :: c :: rest) pos) ρ M (.bl (t || u)) M :=
  we_or (h1.to ⟨t, rfl, fun e => (h2 e).imp fun d M' ⟨a, b⟩ => ⟨by rw [a, e, Bool.false_or], b⟩, fun e => ⟨by rw [e, Bool.true_or], rfl⟩⟩)
theorem de_notV {a : Expr} {t : Bool} (h : DE X a ρ M (.bl t) M') : DE X (.UnaryOp .Not a pos) ρ M (.bl (!t)) M' := fun σ H at0 Qv l =>
  wp_pe (pe_not pe_wp) (h σ H at0 _ fun v d M1 H1 ⟨e, e2⟩ m f r => by subst e e2; cases r; exact ⟨t, rfl, l _ _ _ _ ⟨rfl, rfl⟩ m f (.bl _)⟩)
theorem de_neg {a : Expr} {i : Int} (h : DE X a ρ M (.int i) M') : DE X (.UnaryOp .USub a pos) ρ M (.int (-i)) M' := fun σ H at0 Qv l =>
  wp_pe (pe_un un_neg pe_wp) (h σ H at0 _ fun v d M1 H1 ⟨e, e2⟩ m f r => by subst e e2; cases r; exact ⟨i, rfl, l _ _ _ _ ⟨rfl, rfl⟩ m f (.int _)⟩)
theorem we_ifE {c a d : Expr} (h : WT X c ρ M fun t M1 => (t = true → WE X a ρ M1 Q) ∧ (t = false → WE X d ρ M1 Q)) : WE X (.IfExp c a d pos) ρ M Q := fun σ H at0 Qv l => by
  refine wp_pe (pe_ifExp pt_wp pe_wp pe_wp) (h σ H at0 _ fun t M1 H1 ⟨q1, q2⟩ m1 f1 => ?_)
  cases t with
  | true => rw [if_pos rfl]; exact q1 rfl σ H1 (at0.step m1 f1) Qv (l.go f1)
  | false => rw [if_neg Bool.false_ne_true]; exact q2 rfl σ H1 (at0.step m1 f1) Qv (l.go f1)
theorem de_ifE {c a d : Expr} {t : Bool} {x y : D} (h : DT X c ρ M t M) (h1 : t = true → DE X a ρ M x M) (h2 : t = false → DE X d ρ M y M) : DE X (.IfExp c a d pos) ρ M (if t = true then x else y) M :=
  we_ifE (h.to ⟨fun e => (h1 e).imp fun d' M' ⟨a, b⟩ => ⟨by rw [a, if_pos e], b⟩, fun e => (h2 e).imp fun d' M' ⟨a, b⟩ => ⟨by rw [a, e]; rfl, b⟩⟩)
end
end DL

set_option maxHeartbeats 2000000
/-! DL: statements, calls of defs, a def's promise. -/
namespace DL
open PySem PySem.Spec PyProof.Rows L2 Evl

section
variable {X : Cx} {N : List Str} {sc : Scope} {k : Nat} {b : Bool} {ρ : EnvD} {M M1 M2 M' : MS} {pos : Pos} {Q : D → MS → Prop} {E : DEnds}
theorem wss_nil (q : E.nx ρ M) : WSs X [] ρ M E := fun σ H a D l => wp_pss pss_nil (l.nx ρ M σ H q a Fx.refl)
theorem wss_cons {st : Stmt} {rest : List Stmt} (h : WS X st ρ M { E with nx := fun ρ' M' => WSs X rest ρ' M' E }) : WSs X (st :: rest) ρ M E := fun σ H a D l => by
  refine wp_pss (pss_cons ps_wp pss_wp) (h σ H a { D with nx := wpSs X rest D } ⟨fun ρ' M' σ' H' q a' f => q σ' H' a' D (l.go f), l.rt, l.bk, l.ct⟩)
theorem wss_one {st : Stmt} (h : WS X st ρ M E) : WSs X [st] ρ M E := fun σ H a D l => wp_pss (pss_one ps_wp) (h σ H a D l)
theorem ws_ret {e : Expr} (h : WE X e ρ M E.rt) : WS X (.Return (some e) pos) ρ M E := fun σ H a D l => wp_ps (ps_ret pe_wp) (h σ H a D.rt l.rt)
theorem ws_expr {e : Expr} (h : WE X e ρ M fun _ M' => E.nx ρ M') (hs : swapsWith e none pos.line X.env = pure false := by rfl) : WS X (.Expr e pos) ρ M E := fun σ H a D l =>
  wp_ps (ps_expr pe_wp hs) (h σ H a _ fun v d M' H' q m f r => l.nx ρ M' σ H' q (a.step m f) f)
theorem ws_if {c : Expr} {p q : List Stmt} (h : WT X c ρ M fun t M' => (t = true → WSs X p ρ M' E) ∧ (t = false → WSs X q ρ M' E)) : WS X (.If c p q pos) ρ M E := fun σ H a D l =>
  wp_ps (ps_if pt_wp pss_wp pss_wp) (h σ H a _ fun t M' H' ⟨h1, h2⟩ m f => by
    cases t with
    | true => rw [if_pos rfl]; exact h1 rfl σ H' (a.step m f) D (l.go f)
    | false => rw [if_neg Bool.false_ne_true]; exact h2 rfl σ H' (a.step m f) D (l.go f))
theorem ws_cont (q : E.ct ρ M) : WS X (.Continue pos) ρ M E := fun σ H a D l => wp_ps ps_continue (l.ct ρ M σ H q a Fx.refl)
theorem ws_brk (q : E.bk ρ M) : WS X (.Break pos) ρ M E := fun σ H a D l => wp_ps ps_break (l.bk ρ M σ H q a Fx.refl)
theorem ws_pass (q : E.nx ρ M) : WS X (.Pass pos) ρ M E := fun σ H a D l => wp_ps ps_pass (l.nx ρ M σ H q a Fx.refl)
theorem ws_set (h : XOk X N sc k b) (i : Nat) {x : Str} {e : Expr} {pos' : Pos} (hi : N[i]? = some x) (hx : stB b sc x = true) (he : WE X e ρ M fun d M' => E.nx (ρ.set i (some d)) M') (hs : swapsWith e (some (.Name x pos')) pos.line X.env = pure false := by rfl) :
    WS X (.Assign [.Name x pos'] e pos) ρ M E := fun σ H a D l => by
  refine wp_ps (ps_set (i := i) (by rw [h.n]; exact h.nd) (by rw [h.n]; exact hi) (h.loc hx).1 pe_wp hs (h.loc hx).2) (he σ H a _ fun v d M' H' q m f r => ?_)
  exact l.nx _ M' _ H' q ((a.step m f).set r) f
/-! ### targets -/
theorem wg_name (h : XOk X N sc k b) (i : Nat) {x : Str} {d : D} {Q : EnvD → MS → Prop} (hi : N[i]? = some x) (hx : stB b sc x = true) (q : Q (ρ.set i (some d)) M) : WG X (.Name x pos) d ρ M Q := fun v σ H a r Qv l =>
  wp_pg (pg_name (i := i) (by rw [h.n]; exact h.nd) (by rw [h.n]; exact hi) (h.loc hx).1 (h.loc hx).2) (l _ M _ H q (a.set r) Fx.refl)
/-- names one after another -/
def WGs (X : Cx) (ts : List Expr) (ds : List D) (ρ : EnvD) (M : MS) (Q : EnvD → MS → Prop) : Prop := ∃ t : TGs, PGs X ts t ∧ ∀ vs σ H, At (gx X) ρ M σ H → RpA (gx X) (hid (adr M) H) vs ds → ∀ Qv, LftG (gx X) M H Q Qv → t vs σ H Qv
def wpGs (X : Cx) (ts : List Expr) : TGs := fun vs σ H Q => ∀ pins s us, Inv X pins σ H s → Vals vs us → wpAny (model X.prog X.w) X.A (assignInOrder ((assignEach ts X.env).map (·.2)) us) (fun _ s' => ∃ σ' H', Inv X pins σ' H' s' ∧ Q σ' H') X.xe s
theorem pgs_wp {ts : List Expr} : PGs X ts (wpGs X ts) := ⟨fun pins s _ _ _ us _ I r h => h pins s us I r⟩
theorem wgs_nil {Q : EnvD → MS → Prop} (q : Q ρ M) : WGs X [] [] ρ M Q := ⟨_, pgs_nil, fun vs σ H a r Qv l => by cases r; exact ⟨rfl, l ρ M σ H q a Fx.refl⟩⟩
theorem wgs_cons (h : XOk X N sc k b) (i : Nat) {x : Str} {px : Pos} {ts : List Expr} {d : D} {ds : List D} {Q : EnvD → MS → Prop} (hi : N[i]? = some x) (hx : stB b sc x = true) (q : WGs X ts ds (ρ.set i (some d)) M Q)
    (hs : (assignEach (.Name x px :: ts) X.env).map (·.2) = assign (.Name x px) X.env :: (assignEach ts X.env).map (·.2) := by rfl) : WGs X (.Name x px :: ts) (d :: ds) ρ M Q := by
  obtain ⟨t, p, q⟩ := q
  refine ⟨_, pgs_cons (pg_name (i := i) (by rw [h.n]; exact h.nd) (by rw [h.n]; exact hi) (h.loc hx).1 (h.loc hx).2) p hs, fun vs σ H a r Qv l => ?_⟩
  cases r with
  | cons r rr => exact ⟨_, _, rfl, q _ _ H (a.set r) rr Qv l⟩
theorem wg_tup (h : XOk X N sc k b) {ts : List Expr} {kk : Nat} {ds : List D} {Q : EnvD → MS → Prop} (q : WGs X ts ds ρ M Q) (hl : ds.length = ts.length) (hn : (assignEach ts X.env).length = ts.length := by rfl) (hst : (assignEach ts X.env).findIdx? (·.1) = none := by rfl) : WG X (.Tuple ts kk pos) (.tup ds) ρ M Q := fun v σ H a r Qv l => by
  obtain ⟨t, p, q⟩ := q
  cases r with
  | tup hs ra => exact wp_pg (pg_tup h.calm p hn hst) ⟨_, _, rfl, ex_t hid_ex hs, by rw [ra.len]; exact hl, q _ σ H a ra Qv l⟩
/-- target = e, of any form that does not swap -/
theorem ws_asg {tg e : Expr} (he : WE X e ρ M fun d M' => WG X tg d ρ M' E.nx) (hs : swapsWithSole [tg] e pos.line X.env = pure false := by rfl) (hw : swappedStores [tg] e X.env = pure none := by rfl)
    (h1 : (assignEach [tg] X.env).map (·.2) = [assign tg X.env] := by rfl) : WS X (.Assign [tg] e pos) ρ M E := fun σ H a D l =>
  wp_ps (ps_asg pe_wp pg_wp hs hw h1) (he σ H a _ fun v d M' H' q m f r => q v σ H' (a.step m f) r D.nx (l.nx.go f))
def locB (sc : Scope) (x : Str) : Bool := match sc.names.lookup x with
  | some .local => true
  | _ => false
theorem XOk.lcl (h : XOk X N sc k b) {x : Str} (v : locB sc x = true) : X.env.scope.names.lookup x = some .local := by
  unfold locB at v
  rw [h.scp]
  cases e : sc.names.lookup x with
  | none => rw [e] at v; cases v
  | some kd => rw [e] at v; cases kd <;> first | rfl | cases v
/-- a, b = e1, e2: local names -/
theorem ws_par (h : XOk X N sc k b) (i j : Nat) {x y : Str} {e1 e2 : Expr} {px py pt : Pos} {kt k2 pt2} (hi : N[i]? = some x) (hj : N[j]? = some y) (hij : i ≠ j) (hx : locB sc x = true) (hy : locB sc y = true)
    (hw : swappedStores [.Tuple [.Name x px, .Name y py] kt pt] (.Tuple [e1, e2] k2 pt2) X.env = pure (some [x, y]))
    (he : WE X e1 ρ M fun d1 M1 => WE X e2 ρ M1 fun d2 M2 => E.nx ((ρ.set i (some d1)).set j (some d2)) M2) (hs : swapsWithSole [.Tuple [.Name x px, .Name y py] kt pt] (.Tuple [e1, e2] k2 pt2) pos.line X.env = pure false := by rfl)
    (hs1 : starEach [e1, e2] X.env = (false, eval e1 X.env) :: starEach [e2] X.env := by rfl) (hs2 : starEach [e2] X.env = (false, eval e2 X.env) :: starEach [] X.env := by rfl) :
    WS X (.Assign [.Tuple [.Name x px, .Name y py] kt pt] (.Tuple [e1, e2] k2 pt2) pos) ρ M E := fun σ H a D l => by
  refine wp_ps (ps_par h.calm (by rw [h.n]; exact h.nd) (by rw [h.n]; exact hi) (by rw [h.n]; exact hj) hij (h.lcl hx) (h.lcl hy) (pa_cons pe_wp (pa_cons pe_wp pa_nil hs2) hs1) hw hs) (he σ H a _ fun v1 d1 M1 H1 q1 m1 f1 r1 => ?_)
  refine q1 σ H1 (a.step m1 f1) _ fun v2 d2 M2 H2 q2 m2 f2 r2 => ⟨v1, v2, rfl, ?_⟩
  exact l.nx _ M2 _ H2 q2 (((a.step m1 f1).step m2 f2).set (r1.mono f2) |>.set r2) (Ex.trans f1 f2)
theorem ws_par3 (h : XOk X N sc k b) (i j t : Nat) {x y z : Str} {e1 e2 e3 : Expr} {px py pz pt : Pos} {kt k2 pt2} (hi : N[i]? = some x) (hj : N[j]? = some y) (ht : N[t]? = some z) (hij : i ≠ j) (hit : i ≠ t) (hjt : j ≠ t) (hx : locB sc x = true) (hy : locB sc y = true) (hz : locB sc z = true)
    (hw : swappedStores [.Tuple [.Name x px, .Name y py, .Name z pz] kt pt] (.Tuple [e1, e2, e3] k2 pt2) X.env = pure (some [x, y, z]))
    (he : WE X e1 ρ M fun d1 M1 => WE X e2 ρ M1 fun d2 M2 => WE X e3 ρ M2 fun d3 M3 => E.nx (((ρ.set i (some d1)).set j (some d2)).set t (some d3)) M3) (hs : swapsWithSole [.Tuple [.Name x px, .Name y py, .Name z pz] kt pt] (.Tuple [e1, e2, e3] k2 pt2) pos.line X.env = pure false := by rfl)
    (hs1 : starEach [e1, e2, e3] X.env = (false, eval e1 X.env) :: starEach [e2, e3] X.env := by rfl) (hs2 : starEach [e2, e3] X.env = (false, eval e2 X.env) :: starEach [e3] X.env := by rfl) (hs3 : starEach [e3] X.env = (false, eval e3 X.env) :: starEach [] X.env := by rfl) :
    WS X (.Assign [.Tuple [.Name x px, .Name y py, .Name z pz] kt pt] (.Tuple [e1, e2, e3] k2 pt2) pos) ρ M E := fun σ H a D l => by
  refine wp_ps (ps_par3 h.calm (by rw [h.n]; exact h.nd) (by rw [h.n]; exact hi) (by rw [h.n]; exact hj) (by rw [h.n]; exact ht) hij hit hjt (h.lcl hx) (h.lcl hy) (h.lcl hz) (pa_cons pe_wp (pa_cons pe_wp (pa_cons pe_wp pa_nil hs3) hs2) hs1) hw hs) (he σ H a _ fun v1 d1 M1 H1 q1 m1 f1 r1 => ?_)
  refine q1 σ H1 (a.step m1 f1) _ fun v2 d2 M2 H2 q2 m2 f2 r2 => ?_
  refine q2 σ H2 ((a.step m1 f1).step m2 f2) _ fun v3 d3 M3 H3 q3 m3 f3 r3 => ⟨v1, v2, v3, rfl, ?_⟩
  exact l.nx _ M3 _ H3 q3 (((((a.step m1 f1).step m2 f2).step m3 f3).set (r1.mono (Ex.trans f2 f3))).set (r2.mono f3) |>.set r3) (Ex.trans f1 (Ex.trans f2 f3))
/-! ### while -/
theorem ws_while (h : XOk X N sc k b) {c : Expr} {body : List Stmt} (I : Nat → EnvD → MS → Prop) (m0 : Nat) (h0 : I m0 ρ M)
    (hs : ∀ m ρ' M', I m ρ' M' → WT X c ρ' M' fun t M1 => (t = true → WSs X body ρ' M1 { E with nx := fun ρ2 M2 => ∃ m', m' < m ∧ I m' ρ2 M2, ct := fun ρ2 M2 => ∃ m', m' < m ∧ I m' ρ2 M2, bk := E.nx }) ∧ (t = false → E.nx ρ' M1)) :
    WS X (.While c body [] pos) ρ M E := fun σ H a D l => by
  refine wp_ps (ps_while h.nv pt_wp pss_wp) ⟨fun m σ' H' => ∃ ρ' M', I m ρ' M' ∧ At (gx X) ρ' M' σ' H' ∧ Fx M H M' H', ⟨m0, ρ, M, h0, a, Fx.refl⟩, ?_⟩
  rintro m σ' H' ⟨ρ', M', i, a', f'⟩
  refine hs m ρ' M' i σ' H' a' _ fun t M1 H1 ⟨q1, q2⟩ m1 f1 => ?_
  have f2 : Fx M H M1 H1 := Ex.trans f' f1
  cases t with
  | true =>
    rw [if_pos rfl]
    refine ⟨fun σ3 H3 => ∃ m', m' < m ∧ ∃ ρ3 M3, I m' ρ3 M3 ∧ At (gx X) ρ3 M3 σ3 H3 ∧ Fx M H M3 H3, fun σ3 H3 ⟨m', lt, w⟩ => ⟨m', lt, w⟩, ?_⟩
    refine q1 rfl σ' H1 (a'.step m1 f1) _ ⟨fun ρ3 M3 σ3 H3 ⟨m', lt, i3⟩ a3 f3 => ⟨m', lt, ρ3, M3, i3, a3, Ex.trans f2 f3⟩, l.rt.go f2, l.nx.go f2, fun ρ3 M3 σ3 H3 ⟨m', lt, i3⟩ a3 f3 => ⟨m', lt, ρ3, M3, i3, a3, Ex.trans f2 f3⟩⟩
  | false =>
    rw [if_neg Bool.false_ne_true]
    exact l.nx ρ' M1 σ' H1 (q2 rfl) (a'.step m1 f1) f2

/-! ### calls of defs -/
abbrev SpD := List D → MS → (D → MS → Prop) → Prop
def spD (G : GX) (s : SpD) : Sp := fun vs H Q _ => ∃ ds M QD, RpA G (hid (adr M) H) vs ds ∧ MSt G M H ∧ s ds M QD ∧ Lft G M H QD Q
/-- the def of that name keeps its promise -/
def Dn (X : Cx) (x : Str) (k : Nat) (ps : List Str) (s : SpD) : Prop :=
  ∃ f fd, FnOk X.prog X.w X.K X.mg X.base CX0 k f fd ps (spD (gx X) s) ∧ X.mg x = some (.ref f) ∧ PySem.W.keepIn X.K (.ref f) = true ∧ Binds X.K fd ps []
theorem we_call (h : XOk X N sc k b) {x : Str} {j : Nat} {ps : List Str} {s : SpD} {p : Pos} {e : Expr} {es : List Expr} (F : Dn X x j ps s) (hg : glB sc x = true) (ha : WA X (e :: es) ρ M fun ds M1 => s ds M1 Q) (hk : j ≤ k := by decide)
    (hd : (x == ("__debug__" : Str)) = false := by decide +kernel) (he : starEach (e :: es) X.env = (false, eval e X.env) :: starEach es X.env := by rfl) (hpl : (backTo pos (starEach es X.env)).any (·.1) = false := by rfl) : WE X (.Call (.Name x p) (e :: es) [] pos) ρ M Q := fun σ H a Qv l => by
  obtain ⟨f, fd, ok, hm, hkp, hb⟩ := F
  refine wp_pe (pe_call ok (h.room.mono hk) (h.gl hg) hm hkp hb .nil pass0 pa_wp hd he hpl) (ha σ H a _ fun vs ds M1 H1 q m f1 r => ?_)
  rw [List.append_nil]
  exact ⟨ds, M1, Q, r, m, q, l.go f1⟩
theorem we_call0 (h : XOk X N sc k b) {x : Str} {j : Nat} {ps : List Str} {s : SpD} {p : Pos} (F : Dn X x j ps s) (hg : glB sc x = true) (q : s [] M Q) (hk : j ≤ k := by decide)
    (hd : (x == ("__debug__" : Str)) = false := by decide +kernel) : WE X (.Call (.Name x p) [] [] pos) ρ M Q := fun σ H a Qv l => by
  obtain ⟨f, fd, ok, hm, hkp, hb⟩ := F
  exact wp_pe (pe_call0 ok (h.room.mono hk) (h.gl hg) hm hkp hb .nil pass0 hd) ⟨[], M, Q, .nil, a.m, q, l⟩
theorem de_call (h : XOk X N sc k b) {x : Str} {j : Nat} {ps : List Str} {s : SpD} {p : Pos} {e : Expr} {es : List Expr} {ds : List D} {d : D} (F : Dn X x j ps s) (hg : glB sc x = true) (ha : DA X (e :: es) ρ M ds M1) (q : s ds M1 fun d' M2 => d' = d ∧ M2 = M') (hk : j ≤ k := by decide)
    (hd : (x == ("__debug__" : Str)) = false := by decide +kernel) (he : starEach (e :: es) X.env = (false, eval e X.env) :: starEach es X.env := by rfl) (hpl : (backTo pos (starEach es X.env)).any (·.1) = false := by rfl) : DE X (.Call (.Name x p) (e :: es) [] pos) ρ M d M' :=
  we_call h F hg (ha.to q) hk hd he hpl
theorem do_call (h : XOk X N sc k b) {x : Str} {j : Nat} {ps : List Str} {s : SpD} {p : Pos} {e : Expr} {es : List Expr} {ds : List D} {mo : MO} (F : Dn X x j ps s) (hg : glB sc x = true) (ha : DA X (e :: es) ρ M ds M1) (q : s ds M1 fun d' M2 => ∃ p, d' = .ref p ∧ M2 = (p, mo) :: M') (hk : j ≤ k := by decide)
    (hd : (x == ("__debug__" : Str)) = false := by decide +kernel) (he : starEach (e :: es) X.env = (false, eval e X.env) :: starEach es X.env := by rfl) (hpl : (backTo pos (starEach es X.env)).any (·.1) = false := by rfl) : DO X (.Call (.Name x p) (e :: es) [] pos) ρ M mo M' :=
  we_call h F hg (ha.to q) hk hd he hpl
end

/-! ### what a def hands back: its own objects frozen or let go -/
mutual
inductive Fz (Gs : MS) : D → D → Prop
  | id {d : D} : Fz Gs d d
  | ref {p : Addr} {mo : MO} (h : (p, mo) ∈ Gs) : Fz Gs (.ref p) mo.frz
  | tup {ds es : List D} (h : FzA Gs ds es) : Fz Gs (.tup ds) (.tup es)
inductive FzA (Gs : MS) : List D → List D → Prop
  | nil : FzA Gs [] []
  | cons {d e : D} {ds es : List D} (h : Fz Gs d e) (r : FzA Gs ds es) : FzA Gs (d :: ds) (e :: es)
end
section
variable {G : GX} {H : Hp} {M Gs : MS}
theorem hid_app : Ex (hid (adr (Gs ++ M)) H) (hid (adr M) H) := fun a u e => by
  unfold hid at e ⊢
  split at e
  · cases e
  · rename_i h
    rw [if_neg fun m => h (by unfold adr; rw [List.map_append]; exact List.mem_append_right _ m)]
    exact e
theorem MSt.drops : ∀ {Gs : MS}, MSt G (Gs ++ M) H → MSt G M H
  | [], m => m
  | _ :: Gs, m => MSt.drops (Gs := Gs) m.drop
theorem MSt.own (m : MSt G (Gs ++ M) H) {p : Addr} {mo : MO} (h : (p, mo) ∈ Gs) : ∃ o, hid (adr M) H p = some o ∧ MCt G (hid (adr M) H) p mo o := by
  obtain ⟨o, h1, h2⟩ := m.ok (p, mo) (List.mem_append_left _ h)
  refine ⟨o, ?_, h2.mono hid_app⟩
  unfold hid
  have nd := m.nd
  unfold adr at nd
  rw [List.map_append] at nd
  rw [if_neg fun hm => (List.nodup_append.mp nd).2.2 p (List.mem_map.mpr ⟨_, h, rfl⟩) p hm rfl]
  exact h1
mutual
theorem Fz.rp (m : MSt G (Gs ++ M) H) : ∀ {d e : D} {v : V}, Fz Gs d e → Rp G (hid (adr (Gs ++ M)) H) v d → Rp G (hid (adr M) H) v e
  | _, _, _, .id, r => r.mono hid_app
  | _, _, _, .ref h, r => by
    obtain ⟨o, h1, h2⟩ := m.own h
    cases r
    exact MCt.rp h1 h2
  | _, _, _, .tup h, .tup s a => .tup (ex_t hid_app s) (FzA.rp m h a)
theorem FzA.rp (m : MSt G (Gs ++ M) H) : ∀ {ds es : List D} {vs : List V}, FzA Gs ds es → RpA G (hid (adr (Gs ++ M)) H) vs ds → RpA G (hid (adr M) H) vs es
  | _, _, _, .nil, .nil => .nil
  | _, _, _, .cons h hr, .cons r a => .cons (Fz.rp m h r) (FzA.rp m hr a)
end
end
/-- the wish of a def's return -/
def Rtn (QD : D → MS → Prop) (d : D) (M'' : MS) : Prop := ∃ d' M' Gs, M'' = Gs ++ M' ∧ Fz Gs d d' ∧ QD d' M'
theorem Rtn.now {QD : D → MS → Prop} {d : D} {M : MS} (q : QD d M) : Rtn QD d M := ⟨d, M, [], rfl, .id, q⟩
def startD (N : List Str) (ds : List D) : EnvD := ds.map some ++ List.replicate (N.length - ds.length) none
theorem at_start {G : GX} {N : List Str} {vs : List V} {ds : List D} {M : MS} {H : Hp} (m : MSt G M H) (r : RpA G (hid (adr M) H) vs ds) : At G (startD N ds) M (L2.start N vs) H := by
  refine ⟨m, fun i d e => ?_, ?_⟩
  · unfold startD at e
    unfold L2.start
    by_cases hi : i < ds.length
    · rw [List.getElem?_append_left (by simpa using hi), List.getElem?_map] at e
      cases q : ds[i]? with
      | none => rw [q] at e; cases e
      | some d' =>
        rw [q] at e
        cases e
        obtain ⟨v, h1, h2⟩ := r.get q
        exact ⟨v, by rw [List.getElem?_append_left (by simp [r.len]; exact hi), List.getElem?_map, h1]; rfl, h2⟩
    · rw [List.getElem?_append_right (by simpa using hi), List.getElem?_replicate] at e
      split at e <;> cases e
  · unfold startD L2.start
    simp [r.len]
/-- a def by its body -/
theorem def_ok {X : Cx} {PT : Cx → Prop} {x : Str} {params : Arguments} {body : List Stmt} {scope : Scope} {f : Addr} {fd : FuncData} {N ps : List Str} {k : Nat} {s : SpD} (F : FunD X.K x x params body scope [] [] f fd) (S : FnScope N ps scope) (hm : X.mg x = some (.ref f)) (hb : Binds X.K fd ps [])
    (hT : ∀ X' : Cx, X'.prog = X.prog → X'.w = X.w → X'.K = X.K → X'.mg = X.mg → X'.base = X.base → PT X')
    (len : ∀ ds M Q, s ds M Q → ds.length = ps.length)
    (hbody : ∀ X' : Cx, XOk X' N scope k true → PT X' → ∀ ds M QD, s ds M QD → WSs X' body (startD N ds) M { nx := fun _ M' => Rtn QD .non M', rt := Rtn QD }) : Dn X x (k + 1) ps s := by
  refine ⟨f, fd, F.ok S (fun vs H Q E h => ?_) (fun cdv A outer s0 H vs Q E hr h => ?_), hm, F.kp, hb⟩
  · obtain ⟨ds, M, QD, r, _, q, _⟩ := h
    rw [r.len]
    exact len _ _ _ q
  · obtain ⟨ds, M, QD, r, m, q, l⟩ := h
    refine ⟨_, PSs.nox pss_wp, ?_⟩
    generalize hX : (cxOf CX0 X.prog X.w X.K X.mg X.base N x scope f cdv A outer s0 H E).nox = X'
    have e1 : X'.prog = X.prog := by rw [← hX]; rfl
    have e2 : X'.w = X.w := by rw [← hX]; rfl
    have e3 : X'.K = X.K := by rw [← hX]; rfl
    have e4 : X'.mg = X.mg := by rw [← hX]; rfl
    have e5 : X'.base = X.base := by rw [← hX]; rfl
    have ok : XOk X' N scope k true := by
      rw [← hX]
      exact ⟨rfl, S.nd, S.kind, rfl, hr, fun _ _ => rfl, PassesOwn.never, rfl⟩
    have eg : gx X' = gx X := by show (⟨X'.prog, X'.w, X'.K⟩ : GX) = _; rw [e1, e2, e3]
    have hw := hbody X' ok (hT X' e1 e2 e3 e4 e5) ds M QD q (L2.start N vs) H (by rw [eg]; exact at_start m r) { nx := fun _ H' => Q .non H', rt := Q } ?_
    · exact hw
    · rw [eg]
      have fin : ∀ v d M' H', Rtn QD d M' → MSt (gx X) M' H' → Fx M H M' H' → Rp (gx X) (hid (adr M') H') v d → Q v H' := fun v d M' H' ⟨d', M2, Gs, e, fz, qd⟩ m' f' r' => by
        subst e
        exact l v d' M2 H' qd m'.drops (Ex.trans f' hid_app) (fz.rp m' r')
      exact ⟨fun ρ' M' σ' H' q' a' f' => fin .non .non M' H' q' a'.m f' .non, fin, fun _ _ _ _ z => z.elim, fun _ _ _ _ z => z.elim⟩
end DL

set_option maxHeartbeats 4000000
/-! DL: what is walked: lists, tuples, ranges, enumerate and zip of lists and tuples in any mix. -/
namespace DL
open PySem PySem.Spec PyProof.Rows L2 Evl

/-! ### lists and tuples alike -/
inductive Kd where | l | t
def SqK (K : PySem.W.Frag) : Kd → Hp → Addr → List V → Prop
  | .l => SqL K
  | .t => SqT K
def ItrK : Kd → Heap → Addr → Addr → Nat → Prop
  | .l => fun h it a i => h.IsListIter it a i
  | .t => fun h it a i => h.IsTupleIter it a i
def IsK : Kd → Heap → Addr → Array Value → Prop
  | .l => fun h a xs => h.IsList a xs
  | .t => fun h a xs => h.IsTuple a xs
def objK : Kd → Addr → Obj
  | .l => fun a => { cls := .type "list_iterator", data := .fields #[.ref a, .int 0 0] }
  | .t => fun a => { cls := .type "tuple_iterator", data := .fields #[.ref a, .int 0 0] }
theorem begK (κ : Kd) (a : Addr) (xs : Array Value) : Begins (.ref a) (objK κ a) (fun h => IsK κ h a xs) := match κ with
  | .l => begins_list a xs
  | .t => begins_tuple a xs
theorem drwK (κ : Kd) {prog : Program} {w : World} {A : Around} (hh : A.handled = none) (it a : Addr) (hne : a ≠ it) (xs : Array Value) :
    Draws prog w A it [it, a] xs.size (fun i v => xs[i]? = some v) (fun i h => ItrK κ h it a i ∧ IsK κ h a xs) := match κ with
  | .l => Draws.list hh it a hne xs
  | .t => Draws.tuple hh it a hne xs
theorem itrK0 {κ : Kd} {h : Heap} {it a : Addr} (e : h.get? it = some (objK κ a)) : ItrK κ h it a 0 := by
  cases κ with
  | l => exact ⟨_, e, rfl, rfl⟩
  | t => exact ⟨_, e, rfl, rfl⟩
theorem ItrK.ob {κ : Kd} {h : Heap} {it a : Addr} {i : Nat} (x : ItrK κ h it a i) : ∃ o, h.get? it = some o ∧ ∀ v, o.data ≠ .cell v := by
  cases κ with
  | l => obtain ⟨o, e, _, d⟩ := x; exact ⟨o, e, fun v q => by rw [d] at q; cases q⟩
  | t => obtain ⟨o, e, _, d⟩ := x; exact ⟨o, e, fun v q => by rw [d] at q; cases q⟩
theorem ItrK.at {κ : Kd} {h h' : Heap} {it a : Addr} {i : Nat} (x : ItrK κ h it a i) (k : ∀ o, h.get? it = some o → h'.get? it = some o) : ItrK κ h' it a i := by
  cases κ with
  | l => exact Heap.IsListIter.at x k
  | t => exact Heap.IsTupleIter.at x k
section
variable {X : Cx} {pins : List (Addr × Obj)} {σ : L2.St} {H : Hp} {s : Shared} {κ : Kd} {a : Addr} {xs ys : List V}
theorem sqK_at (I : Inv X pins σ H s) (h : SqK X.K κ H a xs) : ∃ its : List Value, Vals xs its ∧ IsK κ s.heap a its.toArray ∧ a < s.heap.objs.size := by
  cases κ with
  | l => obtain ⟨its, r, p, _⟩ := I.list h; exact ⟨its, r, p.isList, p.lt⟩
  | t => obtain ⟨its, r, p, _⟩ := I.tuple h; exact ⟨its, r, p, p.lt⟩
theorem sqK_inj (I : Inv X pins σ H s) (h : SqK X.K κ H a xs) (h' : SqK X.K κ H a ys) : xs = ys := by
  cases κ with
  | l => exact I.list_inj h h'
  | t => exact I.tuple_inj h h'
end
/-! ### enumerate -/
theorem sub_enum1 {v : Value} {o : Obj} {Hc : Heap → Prop} (B : Begins v o Hc) :
    Meets (Builtin.«enumerate.__new__» ⟨[.type "enumerate", v], []⟩) (fun _ R s => Hc s.heap ∧
      R (.ok (.ret (.ref (s.heap.push o).objs.size))) { s with heap := (s.heap.push o).push { cls := .type "enumerate", data := .fields #[.none, .bool false, .ref s.heap.objs.size, rawInt 0, .none, .none] } }) :=
  .of_wp fun prog w A R s h => by
    obtain ⟨hp, g, d, tk, os⟩ := s
    obtain ⟨h1, h⟩ := h
    have hsb := sub_enumerate
    have q1 : ∀ {A' : Around} {E : Value → Shared → Prop} {Q : Value → Shared → Prop}, Q (.ref hp.objs.size) ⟨hp.push o, g, d, tk, os⟩ → wpAny (model prog w) A' (pyIter v) Q E ⟨hp, g, d, tk, os⟩ := fun q => B.iter prog w _ _ _ _ h1 q
    wp_walk using q1
    refine wpAny_stack_any fun st => wpAny_pure ?_
    split
    · rename_i c _ _ _ _ _
      cases (c == Value.type "enumerate") <;> (wp_walk using q1; exact ⟨_, rfl, h⟩)
    · wp_walk using q1
      exact ⟨_, rfl, h⟩
theorem enum1_ok {prog : Program} {w : World} {A : Around} {E : Value → Shared → Prop} {s : Shared} {v : Value} {o : Obj} {Hc : Heap → Prop} {Q : Value → Shared → Prop} (B : Begins v o Hc) (h1 : Hc s.heap)
    (h : ∀ h', IsEnum h' (s.heap.objs.size + 1) s.heap.objs.size 0 .none → h'.get? s.heap.objs.size = some o → (∀ b o, s.heap.get? b = some o → h'.get? b = some o) → Q (.ref (s.heap.objs.size + 1)) { s with heap := h' }) :
    wpAny (model prog w) A (call (.type "enumerate") [v]) Q E s := by
  refine callType_new F.called_enumerate (by decide) (F.typeCall_enumerate_1 _) (F.newCall_enumerate_1 _) (fun obj => F.args_object_init_2 obj _) F.entry_enumerate_new (sub_enum1 B) ⟨h1, ?_⟩
  have hz : (s.heap.push o).objs.size = s.heap.objs.size + 1 := Heap.size_push ..
  show _ ∧ _
  rw [hz]
  have he := Heap.get?_push_size (s.heap.push o) (o := { cls := .type "enumerate", data := .fields #[.none, .bool false, .ref s.heap.objs.size, rawInt 0, .none, .none] }) rfl
  rw [hz] at he
  exact ⟨⟨_, he, rfl⟩, h _ he (Heap.get?_push_of_some _ (Heap.get?_push_size _ B.free)) fun b o' x => Heap.get?_push_of_some _ (Heap.get?_push_of_some _ x)⟩
def JEn (K : PySem.W.Frag) (κ : Kd) (a : Addr) : It :=
  ⟨fun i H => ∃ (xs : List V) (x : V), SqK K κ H a xs ∧ xs[i]? = some x,
   fun i H v H' => ∃ T x, v = .ref T ∧ H T = none ∧ H' = upd H T (.tup [.int (i : Nat), x]) ∧ ∀ xs, SqK K κ H a xs → xs[i]? = some x,
   fun i H => ∃ xs : List V, SqK K κ H a xs ∧ xs.length = i⟩
theorem trn_en {P : Program} {w : World} {K : PySem.W.Frag} {elts : List Expr} {kk : Nat} {tpos : Pos} {κ : Kd} {a e it : Addr} (hei : e ≠ it) (hea : e ≠ a) (hia : a ≠ it) :
    Turn P w K (.Tuple elts kk tpos) (JEn K κ a) [e, it] e (fun i h => (∃ old, IsEnum h e it (0 + ((i : Nat) : Int)) old) ∧ ItrK κ h it a i) where
  mem := by simp
  obj := fun i h st c hc => by
    obtain ⟨⟨old, he⟩, hi⟩ := st
    rcases (by simpa using hc : c = e ∨ c = it) with q | q
    · subst q; exact ⟨_, he, fun v q => nomatch q⟩
    · subst q; exact hi.ob
  keep := fun i h h' ⟨⟨old, he⟩, hi⟩ k => ⟨⟨old, k e (by simp) _ he⟩, hi.at fun o q => k it (by simp) o q⟩
  item := by
    intro X hP hw hK hc i pins s σ H E I hf st hg
    subst hP hw hK
    obtain ⟨xs, x, hq, hx⟩ := hg
    obtain ⟨its, rv, ik, hal⟩ := sqK_at I hq
    obtain ⟨u, hu, ru⟩ := rv.get hx
    have W := GoesN.enumFrom (elts := elts) (x1 := kk) (pos := tpos) (0 : Int) (drwK κ (prog := X.prog) (w := X.w) (A := X.A.in1) (I.ok.hd hc) it a hia its.toArray) e hei (by simp [hei, hea]) (by simp)
    have hil : i < its.toArray.size := by simpa using (List.getElem?_eq_some_iff.mp hu).1
    refine W.goes i s _ E hil ⟨st.1, st.2, ik⟩ fun v h' tk hY st' hk _ => ?_
    obtain ⟨T, t, x', ev, hT, hx', hIs⟩ := hY
    have ex : x' = u := by
      have q : its.toArray[i]? = some u := by simpa using hu
      rw [q] at hx'
      exact (Option.some.inj hx').symm
    subst ex
    have new : ObjOk X.prog X.w (upd H T (.tup [.int (i : Nat), x])) h' T (.tup [.int (i : Nat), x]) :=
      ⟨by show 2 ≤ sizeLine; decide, [.int (0 + (i : Int)) t, x'], .cons ⟨t, by rw [Int.zero_add]⟩ (.cons ru .nil), hIs⟩
    have I1 := I.turnedNew (t' := tk) (ch := [e, it]) hk hf hT new
    refine ⟨.ref T, _, I1, by rw [ev]; rfl, ⟨T, x, rfl, I.hok.fresh hT, rfl, fun zs hz => by rw [sqK_inj I hz hq]; exact hx⟩, ⟨st'.1, st'.2.1⟩, fun b hb => ?_⟩
    have hlt : b < s.heap.objs.size := by
      rcases (by simpa using hb : b = e ∨ b = it) with q | q
      · obtain ⟨old, he⟩ := st.1; rw [q]; exact Heap.lt_size he
      · obtain ⟨o, ho, _⟩ := st.2.ob; rw [q]; exact Heap.lt_size ho
    rw [upd_ne (Nat.ne_of_lt (Nat.lt_of_lt_of_le hlt hT))]
    exact (hf b hb).1
  done := by
    intro X hP hw hK hc i pins s σ H E I hf st hg
    subst hP hw hK
    obtain ⟨xs, hq, hx⟩ := hg
    obtain ⟨its, rv, ik, hal⟩ := sqK_at I hq
    have W := GoesN.enumFrom (elts := elts) (x1 := kk) (pos := tpos) (0 : Int) (drwK κ (prog := X.prog) (w := X.w) (A := X.A.in1) (I.ok.hd hc) it a hia its.toArray) e hei (by simp [hei, hea]) (by simp)
    have en : its.toArray.size = i := by rw [List.size_toArray, ← rv.length, hx]
    refine thn (W.stops s (fun s1 => Inv X pins σ H s1) E (by rw [en]; exact ⟨st.1, st.2, ik⟩) fun h' tk hk _ => I.turnedL (t' := tk) (ch := [e, it]) hk hf) fun r s1 q => q
  self := fun A i s Q E st h => let ⟨⟨_, he⟩, _⟩ := st; wpAny_pyIter_enum he h
/-! ### zip -/
def JZp (K : PySem.W.Frag) (κ κ' : Kd) (a b : Addr) : It :=
  ⟨fun i H => ∃ (xs ys : List V) (x y : V), SqK K κ H a xs ∧ SqK K κ' H b ys ∧ xs[i]? = some x ∧ ys[i]? = some y,
   fun i H v H' => ∃ T x y, v = .ref T ∧ H T = none ∧ H' = upd H T (.tup [x, y]) ∧ (∀ xs, SqK K κ H a xs → xs[i]? = some x) ∧ ∀ ys, SqK K κ' H b ys → ys[i]? = some y,
   fun i H => ∃ xs ys : List V, SqK K κ H a xs ∧ SqK K κ' H b ys ∧ min xs.length ys.length = i⟩
theorem zp_mem {c z TI TO i1 i2 : Addr} (m : c ∈ [z, TO, i1, i2]) : c ∈ [z, TI, TO, i1, i2] := by
  simp only [List.mem_cons, List.not_mem_nil, or_false] at m ⊢
  rcases m with q | q | q | q
  · exact .inl q
  · exact .inr (.inr (.inl q))
  · exact .inr (.inr (.inr (.inl q)))
  · exact .inr (.inr (.inr (.inr q)))
theorem trn_zp {P : Program} {w : World} {K : PySem.W.Frag} {elts : List Expr} {kk : Nat} {tpos : Pos} {κ κ' : Kd} {a b z TI TO i1 i2 : Addr} (S : ZipSep2 z TI TO i1 i2 [i1, a] [i2, b]) (h1 : a ≠ i1) (h2 : b ≠ i2) :
    Turn P w K (.Tuple elts kk tpos) (JZp K κ κ' a b) [z, TI, TO, i1, i2] z (fun i h => IsZip h z TI TO .none ∧ IsTupOf2 h TI (.ref i1) (.ref i2) ∧ (∃ a1 a2, IsTupOf2 h TO a1 a2) ∧ ItrK κ h i1 a i ∧ ItrK κ' h i2 b i) where
  mem := by simp
  obj := fun i h st c hc => by
    obtain ⟨hz, hTI, ⟨x, y, hTO⟩, k1, k2⟩ := st
    rcases (by simpa using hc : c = z ∨ c = TI ∨ c = TO ∨ c = i1 ∨ c = i2) with q | q | q | q | q
    · rw [q]; exact ⟨_, hz, fun v q => nomatch q⟩
    · rw [q]; exact ⟨_, hTI, fun v q => nomatch q⟩
    · rw [q]; exact ⟨_, hTO, fun v q => nomatch q⟩
    · rw [q]; exact k1.ob
    · rw [q]; exact k2.ob
  keep := fun i h h' st k => by
    obtain ⟨hz, hTI, ⟨x, y, hTO⟩, k1, k2⟩ := st
    exact ⟨k z (by simp) _ hz, k TI (by simp) _ hTI, ⟨x, y, k TO (by simp) _ hTO⟩, k1.at fun o q => k i1 (by simp) o q, k2.at fun o q => k i2 (by simp) o q⟩
  item := by
    intro X hP hw hK hc i pins s σ H E I hf st hg
    subst hP hw hK
    obtain ⟨hz, hTI, hTO, k1, k2⟩ := id st
    obtain ⟨xs, ys, x, y, hqx, hqy, hx, hy⟩ := hg
    obtain ⟨its, rv, ik, _⟩ := sqK_at I hqx
    obtain ⟨its2, rv2, ik2, _⟩ := sqK_at I hqy
    obtain ⟨u, hu, ru⟩ := rv.get hx
    obtain ⟨u2, hu2, ru2⟩ := rv2.get hy
    have W := GoesN.zip2 (elts := elts) (x1 := kk) (pos := tpos) S (drwK κ (prog := X.prog) (w := X.w) (A := X.A.in1) (I.ok.hd hc) i1 a h1 its.toArray) (drwK κ' (A := X.A.in1) (I.ok.hd hc) i2 b h2 its2.toArray)
    have l1 : i < its.toArray.size := by simpa using (List.getElem?_eq_some_iff.mp hu).1
    have l2 : i < its2.toArray.size := by simpa using (List.getElem?_eq_some_iff.mp hu2).1
    refine W.goes i s _ E (Nat.lt_min.mpr ⟨l1, l2⟩) ⟨hz, hTI, hTO, ⟨k1, ik⟩, ⟨k2, ik2⟩⟩ fun v h' tk hY st' hk _ => ?_
    obtain ⟨T, x', y', ev, hT, hx', hy', hIs⟩ := hY
    have ex : x' = u := by
      have q : its.toArray[i]? = some u := by simpa using hu
      rw [q] at hx'
      exact (Option.some.inj hx').symm
    have ey : y' = u2 := by
      have q : its2.toArray[i]? = some u2 := by simpa using hu2
      rw [q] at hy'
      exact (Option.some.inj hy').symm
    subst ex ey
    have new : ObjOk X.prog X.w (upd H T (.tup [x, y])) h' T (.tup [x, y]) := ⟨by show 2 ≤ sizeLine; decide, [x', y'], .cons ru (.cons ru2 .nil), hIs⟩
    have hk' : ∀ c o, c ∉ [z, TI, TO, i1, i2] → s.heap.get? c = some o → h'.get? c = some o := fun c o hb e => hk c o (fun m => hb (zp_mem m)) e
    have I1 := I.turnedNew (t' := tk) (ch := [z, TI, TO, i1, i2]) hk' hf hT new
    refine ⟨.ref T, _, I1, by rw [ev]; rfl, ⟨T, x, y, rfl, I.hok.fresh hT, rfl, fun l hl => by rw [sqK_inj I hl hqx]; exact hx, fun l hl => by rw [sqK_inj I hl hqy]; exact hy⟩, ⟨st'.1, st'.2.1, st'.2.2.1, st'.2.2.2.1.1, st'.2.2.2.2.1⟩, fun c hcm => ?_⟩
    have hlt : c < s.heap.objs.size := by
      obtain ⟨_, _, hTO⟩ := hTO
      rcases (by simpa using hcm : c = z ∨ c = TI ∨ c = TO ∨ c = i1 ∨ c = i2) with q | q | q | q | q
      · rw [q]; exact Heap.lt_size hz
      · rw [q]; exact Heap.lt_size hTI
      · rw [q]; exact Heap.lt_size hTO
      · obtain ⟨o, ho, _⟩ := k1.ob; rw [q]; exact Heap.lt_size ho
      · obtain ⟨o, ho, _⟩ := k2.ob; rw [q]; exact Heap.lt_size ho
    rw [upd_ne (Nat.ne_of_lt (Nat.lt_of_lt_of_le hlt hT))]
    exact (hf c hcm).1
  done := by
    intro X hP hw hK hc i pins s σ H E I hf st hg
    subst hP hw hK
    obtain ⟨hz, hTI, hTO, k1, k2⟩ := id st
    obtain ⟨xs, ys, hqx, hqy, hend⟩ := hg
    obtain ⟨its, rv, ik, _⟩ := sqK_at I hqx
    obtain ⟨its2, rv2, ik2, _⟩ := sqK_at I hqy
    have W := GoesN.zip2 (elts := elts) (x1 := kk) (pos := tpos) S (drwK κ (prog := X.prog) (w := X.w) (A := X.A.in1) (I.ok.hd hc) i1 a h1 its.toArray) (drwK κ' (A := X.A.in1) (I.ok.hd hc) i2 b h2 its2.toArray)
    have en : min its.toArray.size its2.toArray.size = i := by rw [List.size_toArray, List.size_toArray, ← rv.length, ← rv2.length, hend]
    refine thn (W.stops s (fun s1 => Inv X pins σ H s1) E (by rw [en]; exact ⟨hz, hTI, hTO, ⟨k1, ik⟩, ⟨k2, ik2⟩⟩) fun h' tk hk _ => I.turnedL (t' := tk) (ch := [z, TI, TO, i1, i2]) (fun c o hb e => hk c o (fun m => hb (zp_mem m)) e) hf) fun r s1 q => q
  self := fun A i s Q E st h => wpAny_pyIter_zip st.1 h
end DL

set_option maxHeartbeats 4000000
/-! DL: loops and comprehensions. -/
namespace DL
open PySem PySem.Spec PyProof.Rows L2 Evl

structure IOk (G : GX) (J : It) (items : List D) (M1 : MS) (H1 : Hp) (Gd : MS → Prop) : Prop where
  go : ∀ i M' H' d, Fx M1 H1 M' H' → MSt G M' H' → Gd M' → items[i]? = some d → J.go i H'
  yl : ∀ i M' H' x H2 d, Fx M1 H1 M' H' → MSt G M' H' → Gd M' → items[i]? = some d → J.yld i H' x H2 → Ex H' H2 ∧ Rp G (hid (adr M') H2) x d
  st : ∀ M' H', Fx M1 H1 M' H' → MSt G M' H' → Gd M' → J.stop items.length H'
/-- what a loop walks: its items, what must stand, the memory behind the source -/
def WI (X : Cx) (tg iter : Expr) (ρ : EnvD) (M : MS) (R : List D → (MS → Prop) → MS → Prop) : Prop :=
  ∀ σ H, At (gx X) ρ M σ H → ∀ R' : It → Hp → Prop, (∀ J H1 items Gd M1, R items Gd M1 → MSt (gx X) M1 H1 → Fx M H M1 H1 → IOk (gx X) J items M1 H1 Gd → R' J H1) → wpI X tg iter σ H R'
section
variable {X : Cx} {N : List Str} {sc : Scope} {k : Nat} {b : Bool} {ρ : EnvD} {M M1 M2 M' : MS} {pos : Pos} {Q : D → MS → Prop} {E : DEnds}
theorem wi_list {tg e : Expr} {R : List D → (MS → Prop) → MS → Prop} (h : WE X e ρ M fun d M1 => ∃ ds, SqO M1 d ds ∧ R ds (fun M' => SqO M' d ds) M1) (hs : PI X tg e (iList X.K (wpE X e)) := by exact pi_list pe_wp) : WI X tg e ρ M R := fun σ H a R' l => by
  refine wp_pi hs (h σ H a _ fun v d M1 H1 ⟨ds, s, q⟩ m1 f1 r1 => ?_)
  obtain ⟨p, vs, rfl, hp, ra⟩ := s.v (X := X) m1 r1
  refine ⟨p, rfl, ⟨vs, sq_of hp⟩, l _ H1 ds _ M1 q m1 f1 ?_⟩
  have at_ : ∀ M' H', Fx M1 H1 M' H' → MSt (gx X) M' H' → SqO M' d ds → ∃ vs, H' p = some (.lst vs) ∧ RpA (gx X) (hid (adr M') H') vs ds := fun M' H' f m s' => by
    obtain ⟨p', vs', e, hp', ra'⟩ := s'.v (X := X) m (r1.mono f)
    cases e
    exact ⟨vs', hp', ra'⟩
  refine ⟨fun i M' H' d' f m g e => ?_, fun i M' H' x H2 d' f m g e y => ?_, fun M' H' f m g => ?_⟩
  · obtain ⟨vs', hp', ra'⟩ := at_ M' H' f m g
    obtain ⟨v, ev, _⟩ := ra'.get e
    exact ⟨vs', v, sq_of hp', ev⟩
  · obtain ⟨vs', hp', ra'⟩ := at_ M' H' f m g
    obtain ⟨rfl, hy⟩ := y
    obtain ⟨v, ev, rv⟩ := ra'.get e
    rw [hy vs' (sq_of hp')] at ev
    cases ev
    exact ⟨Ex.refl _, rv⟩
  · obtain ⟨vs', hp', ra'⟩ := at_ M' H' f m g
    exact ⟨vs', sq_of hp', by rw [ra'.len]; exact Nat.le_refl _⟩
theorem wi_tup {tg e : Expr} {R : List D → (MS → Prop) → MS → Prop} (h : WE X e ρ M fun d M1 => ∃ ds, d = .tup ds ∧ R ds (fun _ => True) M1) (hs : PI X tg e (iTup X.K (wpE X e)) := by exact pi_tup pe_wp) : WI X tg e ρ M R := fun σ H a R' l => by
  refine wp_pi hs (h σ H a _ fun v d M1 H1 ⟨ds, e1, q⟩ m1 f1 r1 => ?_)
  subst e1
  cases r1 with
  | @tup p vs _ hq ra =>
    refine ⟨p, rfl, ⟨vs, ex_t hid_ex hq⟩, l _ H1 ds _ M1 q m1 f1 ?_⟩
    have hq' : ∀ M' H', Fx M1 H1 M' H' → SqT X.K H' p vs := fun M' H' f => ex_t (Ex.trans f hid_ex) hq
    refine ⟨fun i M' H' d' f m g e => ?_, fun i M' H' x H2 d' f m g e y => ?_, fun M' H' f m g => ?_⟩
    · obtain ⟨v, ev, _⟩ := ra.get e
      exact ⟨vs, v, hq' M' H' f, ev⟩
    · obtain ⟨rfl, hy⟩ := y
      obtain ⟨v, ev, rv⟩ := ra.get e
      rw [hy vs (hq' M' H2 f)] at ev
      cases ev
      exact ⟨Ex.refl _, rv.mono f⟩
    · exact ⟨vs, hq' M' H' f, by rw [ra.len]; exact Nat.le_refl _⟩
def rngD (lo : Int) (n : Nat) : List D := (List.range n).map fun (i : Nat) => .int (lo + (i : Int))
theorem rng_ok {G : GX} {H1 : Hp} {lo : Int} {n : Nat} : IOk G (Itr lo n) (rngD lo n) M1 H1 fun _ => True := by
  have hl : (rngD lo n).length = n := by simp [rngD]
  have at_ : ∀ (i : Nat) d, (rngD lo n)[i]? = some d → i < n ∧ d = .int (lo + (i : Int)) := fun i d e => by
    have hi : i < n := by rw [← hl]; exact (List.getElem?_eq_some_iff.mp e).1
    refine ⟨hi, ?_⟩
    simp [rngD, List.getElem?_map, List.getElem?_range hi] at e
    exact e.symm
  refine ⟨fun i M' H' d f m g e => (at_ i d e).1, fun i M' H' x H2 d f m g e y => ?_, fun M' H' f m g => by rw [hl]; exact Nat.le_refl n⟩
  obtain ⟨rfl, rfl⟩ := y
  rw [(at_ i d e).2]
  exact ⟨Ex.refl _, .int _⟩
theorem wi_rng1 (h : XOk X N sc k b) {tg e : Expr} {p : Pos} {R : List D → (MS → Prop) → MS → Prop} (hg : glB sc "range" = true) (hm : X.mg "range" = none) (he : WA X [e] ρ M fun ds M1 => ∃ n : Int, ds = [.int n] ∧ -(2 ^ 62) ≤ n ∧ n < 2 ^ 62 ∧ R (rngD 0 n.toNat) (fun _ => True) M1)
    (hs : starEach [e] X.env = [(false, eval e X.env)] := by rfl) : WI X tg (.Call (.Name "range" p) [e] [] pos) ρ M R := fun σ H a R' l => by
  refine wp_pi (pi_range1 (h.gl hg) hm pa_wp hs) (he σ H a _ fun vs ds M1 H1 ⟨n, e1, n1, n2, q⟩ m1 f1 r1 => ?_)
  subst e1
  cases r1 with
  | cons r rr =>
    cases rr
    cases r
    exact ⟨n, rfl, n1, n2, l _ H1 _ _ M1 q m1 f1 rng_ok⟩
/-- a list or a tuple -/
theorem Sq.kd {d : D} {ds : List D} (s : Sq M d ds) {H : Hp} {v : V} (m : MSt (gx X) M H) (r : Rp (gx X) (hid (adr M) H) v d) : ∃ κ p vs, v = .ref p ∧ SqK X.K κ H p vs ∧
    ∀ M' H', Fx M H M' H' → MSt (gx X) M' H' → Sq M' d ds → ∃ us, SqK X.K κ H' p us ∧ RpA (gx X) (hid (adr M') H') us ds := by
  cases s with
  | tup => cases r with | tup h1 h2 => exact ⟨.t, _, _, rfl, ex_t hid_ex h1, fun M' H' f m' s' => ⟨_, ex_t (Ex.trans f hid_ex) h1, h2.mono f⟩⟩
  | tupN => cases r with | tupN h1 h0 h2 => exact ⟨.t, _, _, rfl, .inl (.inr ⟨_, hid_ex _ _ h1⟩), fun M' H' f m' s' => ⟨_, .inl (.inr ⟨_, hid_ex _ _ (f _ _ h1)⟩), h2.mono f⟩⟩
  | lst => cases r with | lst h1 h2 => exact ⟨.l, _, _, rfl, sq_of (hid_ex _ _ h1), fun M' H' f m' s' => ⟨_, sq_of (hid_ex _ _ (f _ _ h1)), h2.mono f⟩⟩
  | ref k h =>
    cases r
    obtain ⟨o, h1, vs, e, h2⟩ := m.at h
    subst e
    refine ⟨.l, _, vs, rfl, sq_of h1, fun M' H' f m' s' => ?_⟩
    cases s' with
    | ref k' h' =>
      obtain ⟨o, h1', vs', e, h2'⟩ := m'.at h'
      subst e
      exact ⟨vs', sq_of h1', h2'⟩
def enD (ds : List D) : List D := ds.mapIdx fun i d => .tup [.int (i : Int), d]
theorem en_get {ds : List D} {i : Nat} {d : D} (e : (enD ds)[i]? = some d) : ∃ x, ds[i]? = some x ∧ d = .tup [.int (i : Int), x] := by
  unfold enD at e
  rw [List.getElem?_mapIdx] at e
  cases q : ds[i]? with
  | none => rw [q] at e; cases e
  | some x => rw [q] at e; cases e; exact ⟨x, rfl, rfl⟩
/-- a new pair -/
theorem rp_pair {G : GX} {H H2 : Hp} {T : Addr} {x y : V} {c d : D} (m : MSt G M H) (hT : H T = none) (e : H2 = upd H T (.tup [x, y])) (r1 : Rp G (hid (adr M) H) x c) (r2 : Rp G (hid (adr M) H) y d) : Ex H H2 ∧ Rp G (hid (adr M) H2) (.ref T) (.tup [c, d]) := by
  subst e
  refine ⟨Ex.new hT, .tup (st_of ?_) (.cons (r1.mono (hid_new' hT)) (.cons (r2.mono (hid_new' hT)) .nil))⟩
  have hn : T ∉ adr M := fun hm => by
    obtain ⟨x, hx, e⟩ := List.mem_map.mp hm
    obtain ⟨o, h1, _⟩ := m.ok x hx
    rw [e, hT] at h1
    cases h1
  unfold hid
  rw [if_neg hn]
  exact upd_same
def iEn (K : PySem.W.Frag) (ta : TA) : TI := fun σ H R => ta σ H fun vs H1 => ∃ a κ xs, vs = [.ref a] ∧ SqK K κ H1 a xs ∧ R (JEn K κ a) H1
theorem pi_en {e : Expr} {ta : TA} {p tpos : Pos} {elts : List Expr} {kk : Nat} (hg : Gl X "enumerate") (hm : X.mg "enumerate" = none) (ha : PA X [e] ta) (hs : starEach [e] X.env = [(false, eval e X.env)] := by rfl) :
    PI X (.Tuple elts kk tpos) (.Call (.Name "enumerate" p) [e] [] pos) (iEn X.K ta) := by
  refine ⟨fun pins s σ H R I h => ?_⟩
  refine Call_ (ld_blt I hg hm boot_enumerate (PyProof.Rows.callWith_type1 (thn (ha.run pos pins s σ H _ I h) fun us s1 ⟨vs, H1, I1, r1, a, κ, xs, ex, hq, q⟩ => ?_) hs rfl))
  subst ex
  obtain ⟨u, rfl, ru⟩ := vals1 r1
  cases (show u = Value.ref a from ru)
  obtain ⟨its, rv, ik, hal⟩ := sqK_at I1 hq
  refine enum1_ok (begK κ a its.toArray) ik fun h' he hit hk => wpAny_pyIter_enum he ?_
  have I2 : Inv X pins σ H1 { s1 with heap := h' } := I1.kept (t' := s1.toks) hk
  refine ⟨s1.heap.objs.size + 1, [s1.heap.objs.size + 1, s1.heap.objs.size], _, _, H1, rfl, I2, trn_en (κ := κ) (a := a) (Nat.succ_ne_self _) (Nat.ne_of_gt (Nat.lt_succ_of_lt hal)) (Nat.ne_of_lt hal), ⟨⟨.none, by simpa using he⟩, itrK0 hit⟩, fun b hb => ?_, q⟩
  have hle : s1.heap.objs.size ≤ b := by
    rcases (by simpa using hb : b = s1.heap.objs.size + 1 ∨ b = s1.heap.objs.size) with z | z
    · rw [z]; exact Nat.le_succ _
    · rw [z]; exact Nat.le_refl _
  exact I1.fpOk hle (I1.hok.fresh hle)
theorem wi_en (h : XOk X N sc k b) {e : Expr} {p tpos : Pos} {elts : List Expr} {kk : Nat} {R : List D → (MS → Prop) → MS → Prop} (hg : glB sc "enumerate" = true) (hm : X.mg "enumerate" = none)
    (he : WA X [e] ρ M fun ds M1 => ∃ d xs, ds = [d] ∧ Sq M1 d xs ∧ R (enD xs) (fun M' => Sq M' d xs) M1) (hs : starEach [e] X.env = [(false, eval e X.env)] := by rfl) : WI X (.Tuple elts kk tpos) (.Call (.Name "enumerate" p) [e] [] pos) ρ M R := fun σ H a R' l => by
  refine wp_pi (pi_en (h.gl hg) hm pa_wp hs) (he σ H a _ fun vs ds M1 H1 ⟨d, xs, e1, s, q⟩ m1 f1 r1 => ?_)
  subst e1
  cases r1 with
  | cons r rr =>
    cases rr
    obtain ⟨κ, p', us, rfl, hq, again⟩ := s.kd (X := X) m1 r
    refine ⟨p', κ, us, rfl, hq, l _ H1 _ _ M1 q m1 f1 ⟨fun i M' H' d' f m g e => ?_, fun i M' H' x H2 d' f m g e y => ?_, fun M' H' f m g => ?_⟩⟩
    · obtain ⟨us', h1, h2⟩ := again M' H' f m g
      obtain ⟨z, ez, _⟩ := en_get e
      obtain ⟨v, ev, _⟩ := h2.get ez
      exact ⟨us', v, h1, ev⟩
    · obtain ⟨us', h1, h2⟩ := again M' H' f m g
      obtain ⟨z, ez, rfl⟩ := en_get e
      obtain ⟨T, x', rfl, hT, e2, hx⟩ := y
      obtain ⟨v, ev, rv⟩ := h2.get ez
      rw [hx us' h1] at ev
      cases ev
      exact rp_pair m hT e2 (.int _) rv
    · obtain ⟨us', h1, h2⟩ := again M' H' f m g
      exact ⟨us', h1, by rw [h2.len]; simp [enD]⟩
def zpD (xs ys : List D) : List D := (xs.zip ys).map fun p => .tup [p.1, p.2]
theorem zp_get {xs ys : List D} {i : Nat} {d : D} (e : (zpD xs ys)[i]? = some d) : ∃ x y, xs[i]? = some x ∧ ys[i]? = some y ∧ d = .tup [x, y] := by
  unfold zpD at e
  rw [List.getElem?_map] at e
  cases q : (xs.zip ys)[i]? with
  | none => rw [q] at e; cases e
  | some z =>
    rw [q] at e
    cases e
    obtain ⟨h1, h2⟩ := List.getElem?_zip_eq_some.mp q
    exact ⟨_, _, h1, h2, rfl⟩
def iZp (K : PySem.W.Frag) (ta : TA) : TI := fun σ H R => ta σ H fun vs H1 => ∃ a c κ κ' xs ys, vs = [.ref a, .ref c] ∧ SqK K κ H1 a xs ∧ SqK K κ' H1 c ys ∧ R (JZp K κ κ' a c) H1
theorem pi_zp {e e2 : Expr} {ta : TA} {p tpos : Pos} {elts : List Expr} {kk : Nat} (hg : Gl X "zip") (hm : X.mg "zip" = none) (ha : PA X [e, e2] ta)
    (hs : starEach [e, e2] X.env = (false, eval e X.env) :: starEach [e2] X.env := by rfl) (hpl : (backTo pos (starEach [e2] X.env)).any (·.1) = false := by rfl) : PI X (.Tuple elts kk tpos) (.Call (.Name "zip" p) [e, e2] [] pos) (iZp X.K ta) := by
  refine ⟨fun pins s σ H R I h => ?_⟩
  refine Call_ (ld_blt I hg hm PyProof.Rows.boot_zip (PyProof.Rows.callWith_type1 (thn (ha.run pos pins s σ H _ I h) fun us s1 ⟨vs, H1, I1, r1, a, c, κ, κ', xs, ys, ex, hqx, hqy, q⟩ => ?_) hs hpl))
  subst ex
  obtain ⟨u, u2, rfl, ru, ru2⟩ := vals2 r1
  cases (show u = Value.ref a from ru)
  cases (show u2 = Value.ref c from ru2)
  obtain ⟨its, rv, ik, la⟩ := sqK_at I1 hqx
  obtain ⟨its2, rv2, ik2, lb⟩ := sqK_at I1 hqy
  refine zip_begins2 (begK κ a its.toArray) (begK κ' c its2.toArray) ik ik2 fun h' hz hTI hTO h1 h2 hsz hk => wpAny_pyIter_zip hz ?_
  have I2 : Inv X pins σ H1 { s1 with heap := h' } := I1.kept (t' := s1.toks) hk
  have S := zip_sep2 (N := s1.heap.objs.size) (fp1 := [a]) (fp2 := [c]) (by intro b hb; rw [List.mem_singleton.mp hb]; exact la) (by intro b hb; rw [List.mem_singleton.mp hb]; exact lb)
  refine ⟨s1.heap.objs.size + 4, [s1.heap.objs.size + 4, s1.heap.objs.size + 2, s1.heap.objs.size + 3, s1.heap.objs.size, s1.heap.objs.size + 1], _, _, H1, rfl, I2,
    trn_zp (κ := κ) (κ' := κ') S (Nat.ne_of_lt la) (Nat.ne_of_lt (Nat.lt_succ_of_lt lb)), ⟨hz, hTI, ⟨_, _, hTO⟩, itrK0 h1, itrK0 h2⟩, fun b hb => ?_, q⟩
  have hle : s1.heap.objs.size ≤ b := by
    rcases (by simpa using hb : b = s1.heap.objs.size + 4 ∨ b = s1.heap.objs.size + 2 ∨ b = s1.heap.objs.size + 3 ∨ b = s1.heap.objs.size ∨ b = s1.heap.objs.size + 1) with z | z | z | z | z <;> rw [z] <;> first | exact Nat.le_add_right _ _ | exact Nat.le_refl _
  exact I1.fpOk hle (I1.hok.fresh hle)
theorem wi_zp (h : XOk X N sc k b) {e e2 : Expr} {p tpos : Pos} {elts : List Expr} {kk : Nat} {R : List D → (MS → Prop) → MS → Prop} (hg : glB sc "zip" = true) (hm : X.mg "zip" = none)
    (he : WA X [e, e2] ρ M fun ds M1 => ∃ d d2 xs ys, ds = [d, d2] ∧ Sq M1 d xs ∧ Sq M1 d2 ys ∧ R (zpD xs ys) (fun M' => Sq M' d xs ∧ Sq M' d2 ys) M1)
    (hs : starEach [e, e2] X.env = (false, eval e X.env) :: starEach [e2] X.env := by rfl) (hpl : (backTo pos (starEach [e2] X.env)).any (·.1) = false := by rfl) : WI X (.Tuple elts kk tpos) (.Call (.Name "zip" p) [e, e2] [] pos) ρ M R := fun σ H a R' l => by
  refine wp_pi (pi_zp (h.gl hg) hm pa_wp hs hpl) (he σ H a _ fun vs ds M1 H1 ⟨d, d2, xs, ys, e1, s, s2, q⟩ m1 f1 r1 => ?_)
  subst e1
  cases r1 with
  | cons r rr =>
    cases rr with
    | cons r2 rr =>
      cases rr
      obtain ⟨κ, p', us, rfl, hq, again⟩ := s.kd (X := X) m1 r
      obtain ⟨κ', p2, us2, rfl, hq2, again2⟩ := s2.kd (X := X) m1 r2
      refine ⟨p', p2, κ, κ', us, us2, rfl, hq, hq2, l _ H1 _ _ M1 q m1 f1 ⟨fun i M' H' d' f m g e => ?_, fun i M' H' x H2 d' f m g e y => ?_, fun M' H' f m g => ?_⟩⟩
      · obtain ⟨us', h1, h2⟩ := again M' H' f m g.1
        obtain ⟨us2', h1', h2'⟩ := again2 M' H' f m g.2
        obtain ⟨z, z2, ez, ez2, _⟩ := zp_get e
        obtain ⟨v, ev, _⟩ := h2.get ez
        obtain ⟨v2, ev2, _⟩ := h2'.get ez2
        exact ⟨us', us2', v, v2, h1, h1', ev, ev2⟩
      · obtain ⟨us', h1, h2⟩ := again M' H' f m g.1
        obtain ⟨us2', h1', h2'⟩ := again2 M' H' f m g.2
        obtain ⟨z, z2, ez, ez2, rfl⟩ := zp_get e
        obtain ⟨T, x', y', rfl, hT, e3, hx, hy⟩ := y
        obtain ⟨v, ev, rv⟩ := h2.get ez
        obtain ⟨v2, ev2, rv2⟩ := h2'.get ez2
        rw [hx us' h1] at ev
        cases ev
        rw [hy us2' h1'] at ev2
        cases ev2
        exact rp_pair m hT e3 rv rv2
      · obtain ⟨us', h1, h2⟩ := again M' H' f m g.1
        obtain ⟨us2', h1', h2'⟩ := again2 M' H' f m g.2
        exact ⟨us', us2', h1, h1', by rw [h2.len, h2'.len]; simp [zpD, List.length_zip]⟩
/-! ### for -/
theorem ws_for (h : XOk X N sc k b) {tg iter : Expr} {body : List Stmt} (hi : WI X tg iter ρ M fun items Gd M1 => ∃ I : Nat → EnvD → MS → Prop, I 0 ρ M1 ∧ (∀ i ρ' M', I i ρ' M' → Gd M') ∧
      (∀ i d ρ' M', items[i]? = some d → I i ρ' M' → WG X tg d ρ' M' fun ρ2 M2 => WSs X body ρ2 M2 { E with nx := I (i + 1), ct := I (i + 1), bk := E.nx }) ∧ ∀ ρ' M', I items.length ρ' M' → E.nx ρ' M')
    (hs : ∀ x, foldedSetIterable iter X.env x = pure x := by intro _; rfl) : WS X (.For tg iter body [] pos) ρ M E := fun σ H a D l => by
  refine wp_ps (ps_for h.nv h.calm pi_wp pg_wp pss_wp hs) (hi σ H a _ fun J H1 items Gd M1 ⟨I, i0, ig, it, ie⟩ m1 f1 ok => ?_)
  refine ⟨fun i m σ' H' => m = items.length - i ∧ i ≤ items.length ∧ ∃ ρ' M', I i ρ' M' ∧ At (gx X) ρ' M' σ' H' ∧ Fx M1 H1 M' H', ⟨_, rfl, Nat.zero_le _, ρ, M1, i0, a.step m1 f1, Fx.refl⟩, ?_⟩
  rintro i m σ' H' ⟨rfl, hle, ρ', M', iv, a', f'⟩
  have f2 : Fx M H M' H' := Ex.trans f1 f'
  by_cases hlt : i < items.length
  · have e : items[i]? = some items[i] := List.getElem?_eq_getElem hlt
    refine .inr ⟨ok.go i M' H' _ f' a'.m (ig _ _ _ iv) e, fun σ3 H3 => ∃ ρ3 M3, I (i + 1) ρ3 M3 ∧ At (gx X) ρ3 M3 σ3 H3 ∧ Fx M1 H1 M3 H3, fun σ3 H3 ⟨ρ3, M3, w⟩ => ⟨items.length - (i + 1), by omega, rfl, hlt, ρ3, M3, w⟩, fun x H2 y => ?_⟩
    obtain ⟨ex, rx⟩ := ok.yl i M' H' x H2 _ f' a'.m (ig _ _ _ iv) e y
    have m2 : MSt (gx X) M' H2 := a'.m.ex ex
    have f3 : Fx M' H' M' H2 := hid_mono ex
    refine it i _ ρ' M' e iv x σ' H2 (a'.step m2 f3) rx _ fun ρ2 M2 σ2 H4 w a2 f4 => ?_
    have f5 : Fx M1 H1 M2 H4 := Ex.trans f' (Ex.trans f3 f4)
    refine w σ2 H4 a2 _ ⟨fun ρ3 M3 σ3 H3 w3 a3 f6 => ⟨ρ3, M3, w3, a3, Ex.trans f5 f6⟩, l.rt.go (Ex.trans f1 f5), l.nx.go (Ex.trans f1 f5), fun ρ3 M3 σ3 H3 w3 a3 f6 => ⟨ρ3, M3, w3, a3, Ex.trans f5 f6⟩⟩
  · have e : i = items.length := by omega
    subst e
    exact .inl ⟨ok.st M' H' f' a'.m (ig _ _ _ iv), l.nx ρ' M' σ' H' (ie ρ' M' iv) a' f2⟩
/-! ### comprehensions -/
def wipeD (ρ : EnvD) : List Nat → EnvD
  | [] => ρ
  | v :: vs => (wipeD ρ vs).set v none
theorem wipe_get {α : Type} {σ : List (Option α)} {w : List (Option α) → List Nat → List (Option α)} (h0 : ∀ σ, w σ [] = σ) (h1 : ∀ σ v vs, w σ (v :: vs) = (w σ vs).set v none) : ∀ (vs : List Nat) (i : Nat), (w σ vs)[i]? = if i ∈ vs then (σ[i]?).map fun _ => none else σ[i]?
  | [], i => by rw [h0]; simp
  | v :: vs, i => by
    rw [h1, List.getElem?_set]
    have ih := wipe_get (σ := σ) h0 h1 vs i
    by_cases e : v = i
    · subst e
      rw [if_pos rfl]
      have hl : (v < (w σ vs).length) ↔ v < σ.length := by
        have := ih
        constructor
        · intro q
          rw [List.getElem?_eq_getElem q] at this
          by_cases hv : v < σ.length
          · exact hv
          · rw [List.getElem?_eq_none (by omega)] at this
            split at this <;> cases this
        · intro q
          rw [List.getElem?_eq_getElem q] at this
          by_cases hv : v < (w σ vs).length
          · exact hv
          · rw [List.getElem?_eq_none (by omega)] at this
            split at this <;> cases this
      by_cases hv : v < σ.length
      · rw [if_pos (hl.mpr hv), if_pos List.mem_cons_self, List.getElem?_eq_getElem hv]
        rfl
      · rw [if_neg (fun q => hv (hl.mp q)), if_pos List.mem_cons_self, List.getElem?_eq_none (by omega)]
        rfl
    · rw [if_neg e, ih]
      have : (i ∈ v :: vs) ↔ i ∈ vs := by simp [Ne.symm e]
      by_cases hm : i ∈ vs
      · rw [if_pos hm, if_pos (this.mpr hm)]
      · rw [if_neg hm, if_neg (fun q => hm (this.mp q))]
theorem wipeS_get (σ : L2.St) (vs : List Nat) (i : Nat) : (wipe σ vs)[i]? = if i ∈ vs then (σ[i]?).map fun _ => none else σ[i]? := wipe_get (w := wipe) (fun _ => rfl) (fun _ _ _ => rfl) vs i
theorem wipeD_get (ρ : EnvD) (vs : List Nat) (i : Nat) : (wipeD ρ vs)[i]? = if i ∈ vs then (ρ[i]?).map fun _ => none else ρ[i]? := wipe_get (w := wipeD) (fun _ => rfl) (fun _ _ _ => rfl) vs i
theorem wipe_set {σ : L2.St} {vs : List Nat} {j : Nat} {x : Option V} (h : j ∈ vs) : wipe (σ.set j x) vs = wipe σ vs := by
  apply List.ext_getElem?
  intro i
  rw [wipeS_get, wipeS_get, List.getElem?_set]
  by_cases hi : i ∈ vs
  · rw [if_pos hi, if_pos hi]
    by_cases e : j = i
    · subst e
      by_cases hl : j < σ.length
      · rw [if_pos rfl, if_pos hl, List.getElem?_eq_getElem hl]; rfl
      · rw [if_pos rfl, if_neg hl, List.getElem?_eq_none (by omega)]
    · rw [if_neg e]
  · have ne : ¬ j = i := fun e => hi (by rw [← e]; exact h)
    rw [if_neg hi, if_neg hi, if_neg ne]
theorem wipe_wipe {σ : L2.St} {vs : List Nat} : wipe (wipe σ vs) vs = wipe σ vs := by
  apply List.ext_getElem?
  intro i
  rw [wipeS_get, wipeS_get]
  by_cases hi : i ∈ vs
  · rw [if_pos hi, if_pos hi, Option.map_map]; rfl
  · rw [if_neg hi, if_neg hi]
theorem at_wipe {G : GX} {σ : L2.St} {H : Hp} {vs : List Nat} (a : At G ρ M σ H) : At G (wipeD ρ vs) M (wipe σ vs) H := by
  refine ⟨a.m, fun i d e => ?_, ?_⟩
  · rw [wipeD_get] at e
    rw [wipeS_get]
    by_cases hi : i ∈ vs
    · rw [if_pos hi] at e
      cases q : ρ[i]? with
      | none => rw [q] at e; cases e
      | some z => rw [q] at e; cases e
    · rw [if_neg hi] at e ⊢
      exact a.env i d e
  · have h1 : ∀ vs : List Nat, (wipeD ρ vs).length = ρ.length := fun vs => by
      induction vs with
      | nil => rfl
      | cons v vs ih => unfold wipeD; rw [List.length_set, ih]
    rw [h1, wipe_length, a.len]
def WTs (X : Cx) (ifs : List Expr) (ρ : EnvD) (M : MS) (Q : Bool → MS → Prop) : Prop := match ifs with
  | [] => Q true M
  | [c] => WT X c ρ M Q
  | _ => False
end
end DL

set_option maxHeartbeats 4000000
/-! DL: list comprehensions. -/
namespace DL
open PySem PySem.Spec PyProof.Rows L2 Evl

section
variable {X : Cx} {N : List Str} {sc : Scope} {k : Nat} {b : Bool} {ρ : EnvD} {M M1 M2 M' : MS} {pos : Pos} {Q : D → MS → Prop} {E : DEnds}
@[irreducible] def wpTs (X : Cx) (ifs : List Expr) : TT := fun σ H Q => ∀ pins s, Inv X pins σ H s →
    wpAny (model X.prog X.w) X.A (forIn ifs true fun c r => if r = true then do let ok ← isTrue c X.env (eval c X.env); pure (ForInStep.yield ok) else pure (ForInStep.yield r)) (TP X pins σ Q) X.xe s
theorem pts_wp {ifs : List Expr} : PTs X ifs (wpTs X ifs) := ⟨fun pins s _ _ _ I h => by unfold wpTs at h; exact h pins s I⟩
theorem wts_wp {ifs : List Expr} {Q : Bool → MS → Prop} (h : WTs X ifs ρ M Q) {σ : L2.St} {H : Hp} (a : At (gx X) ρ M σ H) {Qv : Bool → Hp → Prop} (l : LftT (gx X) M H Q Qv) : wpTs X ifs σ H Qv := match ifs, h with
  | [], h => by unfold wpTs; exact fun pins s I => pts_nil.run pins s σ H Qv I (l true M H h a.m Fx.refl)
  | [c], h => by unfold wpTs; exact fun pins s I => (pts_one pt_wp).run pins s σ H Qv I (h σ H a Qv l)
/-- a comprehension's block -/
def Blk (X : Cx) (N : List Str) (sc scope : Scope) (k : Nat) (PT : Cx → Prop) (X' : Cx) : Prop := XOk X' N (relS scope sc) k false ∧ PT X' ∧ gx X' = gx X
structure TgOk (X : Cx) (scope : Scope) (tg : Expr) (vs : List Nat) (g : TG) (sd : EnvD → D → Option EnvD) : Prop where
  pg : ∀ (s : Shared) (H : Hp) (C : Addr) (cl : List (Str × Addr)) (fp : List Addr), PG (X.blk s H scope (compEnvC scope cl C X.env) fp) tg g
  rd : ∀ (ρ ρ2 : EnvD) (M : MS) (σ : L2.St) (H : Hp) (x : V) (d : D) (Q : L2.St → Hp → Prop), At (gx X) (wipeD ρ vs) M (wipe σ vs) H → Rp (gx X) (hid (adr M) H) x d → sd (wipeD ρ vs) d = some ρ2 →
    (∀ σ2, wipe σ2 vs = wipe σ vs → At (gx X) ρ2 M σ2 H → Q σ2 H) → g x (wipe σ vs) H Q
def tgB (scope sc : Scope) (x : Str) : Bool := match (relS scope sc).names.lookup x, scope.names.lookup x with
  | some .local, _ => true
  | some .cell, some .cell => true
  | _, _ => false
theorem tg_pg (h : XOk X N sc k b) {scope : Scope} {x : Str} {px : Pos} (j : Nat) (hj : N[j]? = some x) (ht : tgB scope sc x = true) (s : Shared) (H : Hp) (C : Addr) (cl : List (Str × Addr)) (fp : List Addr) : PG (X.blk s H scope (compEnvC scope cl C X.env) fp) (.Name x px) (gName j) := by
  have es : (X.blk s H scope (compEnvC scope cl C X.env) fp).env.scope = relS scope sc := by
    show relS scope X.env.scope = _
    rw [h.scp]
  unfold tgB at ht
  refine pg_name (by show X.N.Nodup; rw [h.n]; exact h.nd) (by show X.N[j]? = _; rw [h.n]; exact hj) ?_ ?_
  · unfold L2.Loc
    rw [es]
    split at ht
    · rename_i e; exact .inl e
    · rename_i e _; exact .inr e
    · cases ht
  · rw [es]
    split at ht
    · rename_i e; exact .inr e
    · rename_i _ e
      refine .inl ?_
      show (scope.names.lookup x == some .cell) = true
      rw [e]
      rfl
    · cases ht
theorem tg_name (h : XOk X N sc k b) {scope : Scope} {x : Str} {px : Pos} {vs : List Nat} (j : Nat) (hj : N[j]? = some x) (ht : tgB scope sc x = true) (hv : j ∈ vs) : TgOk X scope (.Name x px) vs (gName j) fun ρ d => some (ρ.set j (some d)) :=
  ⟨tg_pg h j hj ht, fun ρ ρ2 M σ H x d Q a r e q => by
    cases e
    exact q _ ((wipe_set hv).trans wipe_wipe) (a.set r)⟩
theorem tg_pair (h : XOk X N sc k b) {scope : Scope} {x y : Str} {px py p : Pos} {kk : Nat} {vs : List Nat} (i j : Nat) (hi : N[i]? = some x) (hj : N[j]? = some y) (hx : tgB scope sc x = true) (hy : tgB scope sc y = true) (vi : i ∈ vs) (vj : j ∈ vs) :
    TgOk X scope (.Tuple [.Name x px, .Name y py] kk p) vs (gTup X.K 2 (gCons (gName i) (gCons (gName j) gNil))) fun ρ d => match d with
      | .tup [d1, d2] => some ((ρ.set i (some d1)).set j (some d2))
      | _ => none :=
  ⟨fun s H C cl fp => pg_tup h.calm (pgs_cons (tg_pg h i hi hx s H C cl fp) (pgs_cons (tg_pg h j hj hy s H C cl fp) pgs_nil)), fun ρ ρ2 M σ H z d Q a r e q => by
    split at e
    · cases e
      cases r with
      | tup hs ra =>
        cases ra with
        | cons r1 ra =>
          cases ra with
          | cons r2 ra =>
            cases ra
            exact ⟨_, _, rfl, ex_t hid_ex hs, rfl, _, _, rfl, _, _, rfl, rfl, q _ ((wipe_set vj).trans ((wipe_set vi).trans wipe_wipe)) ((a.set r1).set r2)⟩
    · cases e⟩
theorem lc_read (h : XOk X N sc k b) {PT : Cx → Prop} {tg iter elt : Expr} {ifs : List Expr} {scope : Scope} {vs : List Nat} {g : TG} {sd : EnvD → D → Option EnvD} (T : TgOk X scope tg vs g sd) (hk : scope.kind = .function)
    (hT : ∀ X' : Cx, X'.prog = X.prog → X'.w = X.w → X'.K = X.K → X'.mg = X.mg → X'.base = X.base → PT X') (f : D → Option D)
    (hi : WI X tg iter ρ M fun items Gd M1 => (∀ m, Gd (m :: M1)) ∧ items.length ≤ 10000000 ∧
      (∀ d, d ∈ items → ∃ ρ2 t, sd (wipeD ρ vs) d = some ρ2 ∧ (∀ X', Blk X N sc scope k PT X' → ∀ m, WTs X' ifs ρ2 (m :: M1) fun t' M3 => t' = t ∧ M3 = m :: M1) ∧
        (t = true → ∃ e, f d = some e ∧ ∀ X', Blk X N sc scope k PT X' → ∀ m, DE X' elt ρ2 (m :: M1) e (m :: M1)) ∧ (t = false → f d = none)) ∧
      ∀ p, Q (.ref p) ((p, .lst (items.filterMap f)) :: M1))
    {σ : L2.St} {H : Hp} (a : At (gx X) ρ M σ H) {Qv : VK} (l : Lft (gx X) M H Q Qv) :
    tLc (wpI X tg iter) g (fun σ H Q => ∀ s H0 C cl fp, wpTs (X.blk s H0 scope (compEnvC scope cl C X.env) fp) ifs σ H Q) (fun σ H Q => ∀ s H0 C cl fp, wpE (X.blk s H0 scope (compEnvC scope cl C X.env) fp) elt σ H Q) vs σ H Qv := by
  refine hi σ H a _ fun J H1 items Gd M1 ⟨gd, z, turn, q⟩ m1 f1 ok D hD => ?_
  have blk : ∀ s H0 C cl fp, Blk X N sc scope k PT (X.blk s H0 scope (compEnvC scope cl C X.env) fp) := fun s H0 C cl fp => by
    refine ⟨⟨h.n, h.nd, hk, h.calm, h.room, (fun e => by cases e), PassesOwn.never, ?_⟩, hT (X.blk s H0 scope (compEnvC scope cl C X.env) fp) rfl rfl rfl rfl rfl, rfl⟩
    show relS scope X.env.scope = _
    rw [h.scp]
  let acc := fun i : Nat => (items.take i).filterMap f
  refine ⟨fun i n H' => n = items.length - i ∧ i ≤ items.length ∧ MSt (gx X) ((D, .lst (acc i)) :: M1) H' ∧ Fx M1 H1 ((D, .lst (acc i)) :: M1) H', ⟨_, rfl, Nat.zero_le _, m1.new hD ⟨[], rfl, by simp [acc]; exact .nil⟩, hid_new hD⟩, ?_⟩
  rintro i n H' ⟨rfl, hle, m', f'⟩
  by_cases hlt : i < items.length
  · have e : items[i]? = some items[i] := List.getElem?_eq_getElem hlt
    refine .inr ⟨ok.go i _ H' _ f' m' (gd _) e, fun H3 => MSt (gx X) ((D, .lst (acc (i + 1))) :: M1) H3 ∧ Fx M1 H1 ((D, .lst (acc (i + 1))) :: M1) H3, fun H3 ⟨m3, f3⟩ => ⟨items.length - (i + 1), by omega, rfl, hlt, m3, f3⟩, fun x H2 y => ?_⟩
    obtain ⟨ex, rx⟩ := ok.yl i _ H' x H2 _ f' m' (gd _) e y
    obtain ⟨ρ2, t, es, tests, qt, qf⟩ := turn _ (List.getElem_mem hlt)
    have m2 := m'.ex ex
    have f2 : Fx M1 H1 ((D, .lst (acc i)) :: M1) H2 := Ex.trans f' (hid_mono ex)
    have ea : acc (i + 1) = acc i ++ (f items[i]).toList := by
      show (items.take (i + 1)).filterMap f = (items.take i).filterMap f ++ _
      rw [List.take_succ, e, List.filterMap_append]
      cases q : f items[i] <;> simp [q]
    refine T.rd ρ ρ2 _ σ H2 x _ _ (at_wipe (a.step m2 (Ex.trans f1 f2))) rx es fun σ2 ew a2 => ⟨ew, fun s H0 C cl fp => ?_⟩
    have B := blk s H0 C cl fp
    refine wts_wp (tests _ B (D, .lst (acc i))) (by rw [B.2.2]; exact a2) (fun t' M3 H3 ⟨et, e3⟩ m3 f3 => ?_)
    subst e3 et
    rw [B.2.2] at m3
    cases t' with
    | false =>
      rw [if_neg Bool.false_ne_true]
      have e4 : acc (i + 1) = acc i := by rw [ea, qf rfl]; simp
      rw [e4]
      exact ⟨m3, Ex.trans f2 f3⟩
    | true =>
      rw [if_pos rfl]
      intro s' H0' C' cl' fp'
      have B' := blk s' H0' C' cl' fp'
      obtain ⟨v, ev, de⟩ := qt rfl
      refine de _ B' (D, .lst (acc i)) σ2 H3 (by rw [B'.2.2]; exact a2.step m3 f3) _ fun y d4 M4 H4 ⟨e4, e5⟩ m4 f4 r4 => ?_
      subst e4 e5
      rw [B'.2.2] at m4 r4
      obtain ⟨o, h4, us, eo, ra⟩ := m4.at (k := 0) rfl
      subst eo
      have e6 : acc (i + 1) = acc i ++ [d4] := by rw [ea, ev]; rfl
      have hz : us.length < sizeLine := by
        have h1 : us.length = (acc i).length := ra.len
        have h2 : (acc i).length ≤ (items.take i).length := List.length_filterMap_le f _
        have h3 : (items.take i).length ≤ items.length := by rw [List.length_take]; exact Nat.min_le_right _ _
        rw [sizeLine_eq]
        omega
      refine ⟨us, h4, hz, ?_⟩
      have c := m4.upd (k := 0) (mo' := .lst (acc (i + 1))) (o := .lst (us ++ [y])) rfl ⟨_, rfl, by rw [e6]; exact ra.app (.cons r4 .nil)⟩
      refine ⟨c, Ex.trans f2 (Ex.trans f3 (Ex.trans f4 ?_))⟩
      show Ex (hid (D :: adr M1) H4) (hid (D :: adr M1) (upd H4 D _))
      rw [hid_upd (List.mem_cons_self)]
      exact Ex.refl _
  · have e : i = items.length := by omega
    subst e
    refine .inl ⟨ok.st _ H' f' m' (gd _), ?_⟩
    have e2 : acc items.length = items.filterMap f := by show (items.take items.length).filterMap f = _; rw [List.take_length]
    rw [e2] at m' f'
    exact l _ _ _ _ (q D) m' (Ex.trans f1 f') (.ref D)
/-- what a comprehension asks -/
def LcAsk (X : Cx) (N : List Str) (sc scope : Scope) (k : Nat) (PT : Cx → Prop) (tg iter : Expr) (ifs : List Expr) (elt : Expr) (vs : List Nat) (sd : EnvD → D → Option EnvD) (ρ : EnvD) (M : MS) (f : D → Option D) (Q : D → MS → Prop) : Prop :=
  WI X tg iter ρ M fun items Gd M1 => (∀ m, Gd (m :: M1)) ∧ items.length ≤ 10000000 ∧
      (∀ d, d ∈ items → ∃ ρ2 t, sd (wipeD ρ vs) d = some ρ2 ∧ (∀ X', Blk X N sc scope k PT X' → ∀ m, WTs X' ifs ρ2 (m :: M1) fun t' M3 => t' = t ∧ M3 = m :: M1) ∧
        (t = true → ∃ e, f d = some e ∧ ∀ X', Blk X N sc scope k PT X' → ∀ m, DE X' elt ρ2 (m :: M1) e (m :: M1)) ∧ (t = false → f d = none)) ∧
      ∀ p, Q (.ref p) ((p, .lst (items.filterMap f)) :: M1)
theorem blk_of (h : XOk X N sc k b) {scope : Scope} {own : List (Str × Nat)} (hb : blkC N sc scope own = true) : BlkOk X.N X.env.scope scope own := by
  rw [h.n, h.scp]
  exact blkOk_by hb
theorem wo_lc (h : XOk X N sc k b) {PT : Cx → Prop} {tg iter elt : Expr} {ifs : List Expr} {scope : Scope} {own : List (Str × Nat)} {g : TG} {sd : EnvD → D → Option EnvD} (T : TgOk X scope tg (own.map (·.2)) g sd) (hb : blkC N sc scope own = true)
    (hT : ∀ X' : Cx, X'.prog = X.prog → X'.w = X.w → X'.K = X.K → X'.mg = X.mg → X'.base = X.base → PT X') (f : D → Option D)
    (hi : LcAsk X N sc scope k PT tg iter ifs elt (own.map (·.2)) sd ρ M f Q) (hs : ∀ x, foldedSetIterable iter X.env x = pure x := by intro _; rfl) : WE X (.ListComp elt [⟨tg, iter, ifs, 0⟩] scope pos) ρ M Q := fun σ H a Qv l => by
  refine wp_pe (pe_lc (te := fun σ H Q => ∀ s H0 C cl fp, wpE (X.blk s H0 scope (compEnvC scope cl C X.env) fp) elt σ H Q) (tt := fun σ H Q => ∀ s H0 C cl fp, wpTs (X.blk s H0 scope (compEnvC scope cl C X.env) fp) ifs σ H Q)
    h.calm (by rw [h.n]; exact h.nd) pi_wp (blk_of h hb) T.pg (fun s H C cl fp => ⟨fun pins s' σ H Q I q => pts_wp.run pins s' σ H Q I (q s _ C cl fp)⟩) (fun s H C cl fp => ⟨fun pins s' σ H Q I q => pe_wp.run pins s' σ H Q I (q s _ C cl fp)⟩) hs) ?_
  exact lc_read h T (blkOk_by hb).kind hT f hi a l
/-- y = [..], y a local on the comprehension's line -/
theorem ws_setLc (h : XOk X N sc k b) {PT : Cx → Prop} (i : Nat) {y : Str} {py spos : Pos} {tg iter elt : Expr} {ifs : List Expr} {scope : Scope} {own : List (Str × Nat)} {g : TG} {sd : EnvD → D → Option EnvD} (hy : N[i]? = some y) (hyl : locB sc y = true) (hl : (py.line == pos.line) = true) (ha : (scope.names.any fun (n, k) => n == y && (k == .local || k == .cell)) = false)
    (T : TgOk X scope tg (own.map (·.2)) g sd) (hb : blkC N sc scope own = true)
    (hT : ∀ X' : Cx, X'.prog = X.prog → X'.w = X.w → X'.K = X.K → X'.mg = X.mg → X'.base = X.base → PT X') (f : D → Option D)
    (hi : LcAsk X N sc scope k PT tg iter ifs elt (own.map (·.2)) sd ρ M f fun d M' => E.nx (ρ.set i (some d)) M') (hs : ∀ x, foldedSetIterable iter X.env x = pure x := by intro _; rfl) : WS X (.Assign [.Name y py] (.ListComp elt [⟨tg, iter, ifs, 0⟩] scope pos) spos) ρ M E := fun σ H a D l => by
  refine wp_ps (ps_setLc (i := i) (te := fun σ H Q => ∀ s H0 C cl fp, wpE (X.blk s H0 scope (compEnvC scope cl C X.env) fp) elt σ H Q) (tt := fun σ H Q => ∀ s H0 C cl fp, wpTs (X.blk s H0 scope (compEnvC scope cl C X.env) fp) ifs σ H Q)
    h.calm (by rw [h.n]; exact h.nd) (by rw [h.n]; exact hy) (h.lcl hyl) (sw_true (by rw [h.scp]; exact h.kind) (h.lcl hyl) hl ha) pi_wp (blk_of h hb) T.pg (fun s H C cl fp => ⟨fun pins s' σ H Q I q => pts_wp.run pins s' σ H Q I (q s _ C cl fp)⟩) (fun s H C cl fp => ⟨fun pins s' σ H Q I q => pe_wp.run pins s' σ H Q I (q s _ C cl fp)⟩) hs) ?_
  unfold LcAsk at hi
  exact lc_read (Q := fun d M' => E.nx (ρ.set i (some d)) M') h T (blkOk_by hb).kind hT f hi a fun v d M' H' q m f r => l.nx _ M' _ H' q ((a.step m f).set r) f
end
end DL

set_option maxHeartbeats 4000000
/-! DL: calls of builtins. -/
namespace DL
open PySem PySem.Spec PyProof.Rows L2 Evl

section
variable {X : Cx} {N : List Str} {sc : Scope} {k : Nat} {b : Bool} {ρ : EnvD} {M M1 M2 M' : MS} {pos : Pos} {Q : D → MS → Prop} {E : DEnds}
@[irreducible] def wpC (X : Cx) (f : Value) (vs : List V) (H : Hp) (Q : VK) : Prop := ∀ pins s σ us, Inv X pins σ H s → Vals vs us → wpAny (model X.prog X.w) X.A (call f us) (EP X pins σ Q) X.xe s
theorem cr_wp {f : Value} : CallR X f (wpC X f) := fun pins s σ H vs us Q I r h => by unfold wpC at h; exact h pins s σ us I r
theorem wp_cr {f : Value} {r : List V → Hp → VK → Prop} (p : CallR X f r) {vs : List V} {H : Hp} {Q : VK} (h : r vs H Q) : wpC X f vs H Q := by unfold wpC; exact fun pins s σ us I rv => p pins s σ H vs us Q I rv h
/-- a call of a known value on data -/
def WC (X : Cx) (f : Value) (ds : List D) (M : MS) (Q : D → MS → Prop) : Prop := ∀ H vs, MSt (gx X) M H → RpA (gx X) (hid (adr M) H) vs ds → ∀ Qv, Lft (gx X) M H Q Qv → wpC X f vs H Qv
theorem wc_cr {f : Value} {r : List V → Hp → VK → Prop} {ds : List D} (p : CallR X f r) (h : ∀ H vs, MSt (gx X) M H → RpA (gx X) (hid (adr M) H) vs ds → ∀ Qv, Lft (gx X) M H Q Qv → r vs H Qv) : WC X f ds M Q := fun H vs m ra Qv l => wp_cr p (h H vs m ra Qv l)
theorem WC.imp {f : Value} {ds : List D} {Q' : D → MS → Prop} (h : WC X f ds M Q) (q : ∀ d M', Q d M' → Q' d M') : WC X f ds M Q' := fun H vs m ra Qv l => h H vs m ra Qv fun v d M' H' z => l v d M' H' (q _ _ z)
def notMain (x : Str) : Bool := !(x == ("__name__" : Str)) && !(x == ("__debug__" : Str))
theorem nm_1 {x : Str} (h : notMain x = true) : x ≠ "__name__" := fun e => by subst e; revert h; decide
theorem nm_2 {x : Str} (h : notMain x = true) : (x == ("__debug__" : Str)) = false := by
  unfold notMain at h
  simp only [Bool.and_eq_true, Bool.not_eq_true'] at h
  exact h.2
theorem we_callB (h : XOk X N sc k b) {x : Str} {id : String} {p : Pos} {e : Expr} {es : List Expr} (hg : glB sc x = true) (hm : X.mg x = none) (hv : bootBuiltins x = some (.builtin id)) (ha : WA X (e :: es) ρ M fun ds M1 => WC X (.builtin id) ds M1 Q) (hn : notMain x = true := by decide +kernel)
    (he : starEach (e :: es) X.env = (false, eval e X.env) :: starEach es X.env := by rfl) (hpl : (backTo pos (starEach es X.env)).any (·.1) = false := by rfl) : WE X (.Call (.Name x p) (e :: es) [] pos) ρ M Q := fun σ H a Qv l =>
  wp_pe (pe_callB cr_wp (h.gl hg) hm hv pa_wp (nm_1 hn) (nm_2 hn) he hpl) (ha σ H a _ fun vs ds M1 H1 q m1 f1 r1 => q H1 vs m1 r1 Qv (l.go f1))
theorem we_callTy (h : XOk X N sc k b) {x : Str} {T : String} {p : Pos} {e : Expr} {es : List Expr} (hg : glB sc x = true) (hm : X.mg x = none) (hv : bootBuiltins x = some (.type T)) (ha : WA X (e :: es) ρ M fun ds M1 => WC X (.type T) ds M1 Q) (hn : notMain x = true := by decide +kernel)
    (he : starEach (e :: es) X.env = (false, eval e X.env) :: starEach es X.env := by rfl) (hpl : (backTo pos (starEach es X.env)).any (·.1) = false := by rfl) : WE X (.Call (.Name x p) (e :: es) [] pos) ρ M Q := fun σ H a Qv l =>
  wp_pe (pe_callTy cr_wp (h.gl hg) hm hv pa_wp (nm_1 hn) (nm_2 hn) he hpl) (ha σ H a _ fun vs ds M1 H1 q m1 f1 r1 => q H1 vs m1 r1 Qv (l.go f1))
theorem pe_tyN {x : Str} {T : String} (hg : Gl X x) (hm : X.mg x = none) (hv : bootBuiltins x = some (.type T)) (hn : notMain x = true := by decide +kernel) : PE X (.Name x pos) (tC (.ty T)) :=
  ⟨fun pins s σ H Q I h => ld_blt I hg hm hv ⟨.ty T, H, I, rfl, h⟩ (nm_1 hn) (nm_2 hn)⟩
theorem de_ty (h : XOk X N sc k b) {x : Str} {T : String} (hg : glB sc x = true) (hm : X.mg x = none) (hv : bootBuiltins x = some (.type T)) (hn : notMain x = true := by decide +kernel) : DE X (.Name x pos) ρ M (.ty T) M :=
  we_c (pe_tyN (h.gl hg) hm hv hn) fun _ => .ty T
/-! ### kinds of things -/
def tyD : D → Option String
  | .non => some "NoneType"
  | .bl _ => some "bool"
  | .int _ => some "int"
  | .str _ => some "str"
  | .tup _ => some "tuple"
  | .tupN _ => some "tuple"
  | .lst _ => some "list"
  | _ => none
theorem ty_tup {K : PySem.W.Frag} {H : Hp} {a : Addr} {xs : List V} (h : SqT K H a xs) : TyX K H (.ref a) (.type "tuple") := by
  rcases h with (h | ⟨o, h⟩) | ⟨o, its, n, h1, h2, _⟩
  · exact .base (.tup h)
  · exact .fTuple h
  · exact .kTuple h1 h2
theorem rp_ty {G : GX} {H : Hp} {v : V} {d : D} {n : String} (r : Rp G H v d) (e : tyD d = some n) : TyX G.K H v (.type n) := by
  cases r with
  | non => cases e; exact .base .non
  | bl x => cases e; exact .base (.bl x)
  | int i => cases e; exact .base (.int i)
  | str x => cases e; exact .base (.str x)
  | ref a => cases e
  | ty n => cases e
  | lsK _ _ => cases e
  | tup h _ => cases e; exact ty_tup h
  | tupN h _ _ => cases e; exact .fTuple h
  | lst h _ => cases e; exact .base (.lst h)
  | dic _ _ _ => cases e
  | dik _ _ => cases e
theorem TyX.ex {K : PySem.W.Frag} {H H' : Hp} {v : V} {t : Value} (e : Ex H H') : TyX K H v t → TyX K H' v t
  | .base h => .base (match h with
    | .non => .non
    | .bl x => .bl x
    | .int i => .int i
    | .str x => .str x
    | .flt x => .flt x
    | .lst q => .lst (e _ _ q)
    | .frz q => .frz (e _ _ q)
    | .tup q => .tup (e _ _ q)
    | .dK q => .dK (e _ _ q)
    | .dT q => .dT (e _ _ q)
    | .ins q c h1 h2 h3 h4 => .ins (e _ _ q) c h1 h2 h3 h4)
  | .byt x => .byt x
  | .set q => .set (e _ _ q)
  | .kList q c => .kList q c
  | .kTuple q c => .kTuple q c
  | .kDict q c => .kDict q c
  | .fTuple q => .fTuple (e _ _ q)
  | .fDict q => .fDict (e _ _ q)
def isD (T : String) (d : D) : Bool := match tyD d with
  | some n => (kitB n T).getD false
  | none => false
theorem wc_isi {d : D} {n T : String} {c : Bool} (e : tyD d = some n) (kb : kitB n T = some c) (q : Q (.bl c) M) : WC X (.builtin "isinstance") [d, .ty T] M Q := wc_cr call_isi fun H vs m ra Qv l => by
  cases ra with
  | cons r1 ra =>
    cases ra with
    | cons r2 ra =>
      cases ra
      cases r2
      exact ⟨_, _, _, _, c, rfl, .ty T, TyX.ex hid_ex (rp_ty r1 e), kit_ty kb, l _ _ M H q m Fx.refl (.bl _)⟩
theorem wc_isiT {d : D} {n T U : String} {c1 c2 : Bool} (e : tyD d = some n) (k1 : kitB n T = some c1) (k2 : kitB n U = some c2) (q : Q (.bl (c1 || c2)) M) : WC X (.builtin "isinstance") [d, .tup [.ty T, .ty U]] M Q := fun H vs m ra Qv l => by
  cases ra with
  | cons r1 ra =>
    cases ra with
    | cons r2 ra =>
      cases ra
      cases r2 with
      | tup hs ra =>
        cases ra with
        | cons q1 ra =>
          cases ra with
          | cons q2 ra =>
            cases ra
            cases q1
            cases q2
            have kk : PySem.W.kitAny X.K (.type n) [.type T, .type U] = some (c1 || c2) := by
              refine kitAny_cons (kit_ty k1) (fun h => ?_) (fun h => by rw [h, Bool.true_or])
              refine kitAny_cons (kit_ty k2) (fun h2 => by rw [h, h2]; exact kitAny_nil) (fun h2 => by rw [h2, Bool.or_true])
            have ty := TyX.ex hid_ex (rp_ty r1 e)
            have fin : Qv (.bl (c1 || c2)) H := l _ _ M H q m Fx.refl (.bl _)
            rcases ex_t hid_ex hs with (h | ⟨o, h⟩) | ⟨o, its, nn, h1, h2, h3, h4, h5⟩
            · exact wp_cr call_isiT ⟨_, _, _, _, _, _, rfl, h, .cons (.ty T) (.cons (.ty U) .nil), ty, kk, fin⟩
            · unfold wpC
              intro pins s σ us I rv
              obtain ⟨u1, u2, rfl, rx, ry⟩ := vals2 rv
              cases (show u2 = Value.ref _ from ry)
              obtain ⟨P, Z, p, hx⟩ := kit_of I rx ty
              obtain ⟨e0, _, its, rv, o', h1, h2, nn, h3⟩ := (show ObjOk X.prog X.w H s.heap _ (.frz o (.tup _)) from I.hok _ _ h)
              have e3 := ClsV.all (.cons (.ty T) (.cons (.ty U) .nil)) rv
              subst e3
              obtain ⟨oc, od, dt, sl⟩ := o'
              simp only at h2 h3
              subst h2 h3
              exact PySem.W.kia_tup Z I.kIn p h1 kk hx fun tk => ⟨.bl _, H, I.tok tk, rfl, fin⟩
            · obtain ⟨oc, od, dt, sl⟩ := o
              simp only at h2 h3
              subst h2 h3
              have e3 := ClsV.all (.cons (.ty T) (.cons (.ty U) .nil)) h5
              obtain ⟨its⟩ := its
              simp only at e3
              subst e3
              exact wp_cr call_isiK ⟨_, _, _, _, _, _, _, _, rfl, h1, ty, kk, fin⟩
theorem wc_len {d : D} {ds : List D} (s : Sq M d ds) (q : Q (.int ds.length) M) : WC X (.builtin "len") [d] M Q := wc_cr call_len_seq fun H vs m ra Qv l => by
  cases ra with
  | cons r1 ra =>
    cases ra
    obtain ⟨p, vs, rfl, hq, ra⟩ := s.v (X := X) m r1
    exact ⟨p, vs, rfl, hq, by rw [ra.len]; exact l _ _ M H q m Fx.refl (.int _)⟩
theorem wc_tuple {d : D} {ds : List D} (s : Sq M d ds) (q : Q (.tup ds) M) : WC X (.type "tuple") [d] M Q := wc_cr call_tuple_of fun H vs m ra Qv l => by
  cases ra with
  | cons r1 ra =>
    cases ra
    cases s with
    | tup => cases r1 with | tup h1 h2 => exact ⟨_, _, rfl, .inr ⟨ex_t hid_ex h1, l _ _ M H q m Fx.refl (.tup h1 h2)⟩⟩
    | tupN => cases r1 with | tupN h1 h0 h2 => exact ⟨_, _, rfl, .inr ⟨.inl (.inr ⟨_, hid_ex _ _ h1⟩), l _ _ M H q m Fx.refl (.tup (.inl (.inr ⟨_, h1⟩)) h2)⟩⟩
    | lst => cases r1 with | lst h1 h2 => exact ⟨_, _, rfl, .inl ⟨sq_of (hid_ex _ _ h1), fun p hp => new_tup l m h2 q hp⟩⟩
    | ref k h =>
      cases r1
      obtain ⟨o, h1, vs, e, h2⟩ := m.at h
      subst e
      exact ⟨_, _, rfl, .inl ⟨sq_of h1, fun p hp => new_tup l m h2 q hp⟩⟩
theorem wc_list {d : D} {ds : List D} (s : Sq M d ds) (q : ∀ p, Q (.ref p) ((p, .lst ds) :: M)) : WC X (.type "list") [d] M Q := wc_cr call_list_of fun H vs m ra Qv l => by
  cases ra with
  | cons r1 ra =>
    cases ra
    obtain ⟨p, vs, rfl, hq, ra⟩ := s.v (X := X) m r1
    exact ⟨p, vs, rfl, hq, fun p hp => new_lst l m ra q hp⟩
theorem RpA.bls {G : GX} {H : Hp} : ∀ {bs : List Bool} {vs : List V}, RpA G H vs (bs.map .bl) → vs = bs.map .bl
  | [], _, r => by cases r; rfl
  | _ :: bs, _, .cons r a => by cases r; rw [RpA.bls a]; rfl
theorem RpA.ints {G : GX} {H : Hp} : ∀ {bs : List Int} {vs : List V}, RpA G H vs (bs.map .int) → vs = bs.map .int
  | [], _, r => by cases r; rfl
  | _ :: bs, _, .cons r a => by cases r; rw [RpA.ints a]; rfl
theorem ints_rp {G : GX} {H : Hp} : ∀ (bs : List Int), RpA G H (bs.map .int) (bs.map .int)
  | [] => .nil
  | _ :: bs => .cons (.int _) (ints_rp bs)
theorem SqO.sq {d : D} {ds : List D} : SqO M d ds → Sq M d ds
  | .lst => .lst
  | .ref k h => .ref k h
theorem wc_all (h : XOk X N sc k b) {d : D} {bs : List Bool} (s : SqO M d (bs.map .bl)) (q : Q (.bl (bs.all id)) M) : WC X (.builtin "all") [d] M Q := wc_cr (cr_all h.calm) fun H vs m ra Qv l => by
  cases ra with
  | cons r1 ra =>
    cases ra
    obtain ⟨p, vs, rfl, hq, ra⟩ := s.v (X := X) m r1
    have e := ra.bls
    subst e
    exact ⟨p, bs, rfl, sq_of hq, l _ _ M H q m Fx.refl (.bl _)⟩
theorem wc_sum (h : XOk X N sc k b) {d : D} {ns : List Int} (s : SqO M d (ns.map .int)) (q : Q (.int ns.sum) M) : WC X (.builtin "sum") [d] M Q := wc_cr (cr_sum h.calm) fun H vs m ra Qv l => by
  cases ra with
  | cons r1 ra =>
    cases ra
    obtain ⟨p, vs, rfl, hq, ra⟩ := s.v (X := X) m r1
    have e := ra.ints
    subst e
    exact ⟨p, ns, rfl, sq_of hq, l _ _ M H q m Fx.refl (.int _)⟩
theorem wc_max (h : XOk X N sc k b) {d : D} {ns : List Int} (s : SqO M d (ns.map .int)) (z : 0 < ns.length) (q : ∀ m, m ∈ ns → (∀ y ∈ ns, y ≤ m) → Q (.int m) M) : WC X (.builtin "max") [d] M Q := wc_cr (cr_max h.calm) fun H vs m ra Qv l => by
  cases ra with
  | cons r1 ra =>
    cases ra
    obtain ⟨p, vs, rfl, hq, ra⟩ := s.v (X := X) m r1
    have e := ra.ints
    subst e
    exact ⟨p, ns, rfl, sq_of hq, z, fun i h1 h2 => l _ _ M H (q i h1 h2) m Fx.refl (.int _)⟩
theorem wc_sortI {d : D} {ns : List Int} (s : SqO M d (ns.map .int)) (z : ns.length < 64) (q : ∀ (ns' : List Int) p, ns'.Perm ns → ns'.Pairwise (· ≤ ·) → Q (.ref p) ((p, .lst (ns'.map .int)) :: M)) : WC X (.builtin "sorted") [d] M Q := wc_cr cr_sorted fun H vs m ra Qv l => by
  cases ra with
  | cons r1 ra =>
    cases ra
    obtain ⟨p, vs, rfl, hq, ra⟩ := s.v (X := X) m r1
    have e := ra.ints
    subst e
    exact ⟨p, ns, rfl, sq_of hq, z, fun ns' p h1 h2 hp => new_lst l m (ints_rp ns') (fun p => q ns' p h1 h2) hp⟩
theorem wc_abs {i : Int} (q : Q (.int (if i < 0 then -i else i)) M) : WC X (.builtin "abs") [.int i] M Q := wc_cr call_abs fun H vs m ra Qv l => by
  cases ra with
  | cons r1 ra =>
    cases ra
    cases r1
    exact ⟨i, rfl, l _ _ M H q m Fx.refl (.int _)⟩
theorem wc_intI {i : Int} (q : Q (.int i) M) : WC X (.type "int") [.int i] M Q := wc_cr call_int1 fun H vs m ra Qv l => by
  cases ra with
  | cons r1 ra =>
    cases ra
    cases r1
    exact .inl ⟨i, rfl, l _ _ M H q m Fx.refl (.int _)⟩
theorem wc_intB {c : Bool} (q : Q (.int (if c then 1 else 0)) M) : WC X (.type "int") [.bl c] M Q := wc_cr call_int1 fun H vs m ra Qv l => by
  cases ra with
  | cons r1 ra =>
    cases ra
    cases r1
    exact .inr ⟨c, rfl, l _ _ M H q m Fx.refl (.int _)⟩
end
end DL

set_option maxHeartbeats 4000000
/-! DL: methods, stores, slices, chains, letting own objects go. -/
namespace DL
open PySem PySem.Spec PyProof.Rows L2 Evl

section
variable {X : Cx} {N : List Str} {sc : Scope} {k : Nat} {b : Bool} {ρ : EnvD} {M M1 M2 M' : MS} {pos : Pos} {Q : D → MS → Prop} {E : DEnds}
/-! ### own objects let go inside an expression -/
theorem we_rtn {e : Expr} (h : WE X e ρ M (Rtn Q)) : WE X e ρ M Q := fun σ H a Qv l => h σ H a Qv fun v d M2 H2 ⟨d', M3, Gs, e1, fz, q⟩ m f r => by
  subst e1
  exact l v d' M3 H2 q m.drops (Ex.trans f hid_app) (fz.rp m r)
theorem wt_rtn {e : Expr} {Q : Bool → MS → Prop} (h : WT X e ρ M fun t M' => ∃ Gs M'', M' = Gs ++ M'' ∧ Q t M'') : WT X e ρ M Q := fun σ H a Qv l => h σ H a Qv fun t M2 H2 ⟨Gs, M3, e1, q⟩ m f => by
  subst e1
  exact l t M3 H2 q m.drops (Ex.trans f hid_app)
theorem we_frz1 {e : Expr} {mo : MO} (h : WE X e ρ M fun d M' => ∃ p mo M'', d = .ref p ∧ M' = (p, mo) :: M'' ∧ Q mo.frz M'') : WE X e ρ M Q := we_rtn (h.imp fun d M' ⟨p, mo, M'', e1, e2, q⟩ => by
  subst e1 e2
  exact ⟨mo.frz, M'', [(p, mo)], rfl, .ref (List.mem_singleton.mpr rfl), q⟩)
theorem wss_rtn {st : List Stmt} {Gs : MS} (h : WSs X st ρ M { E with rt := Rtn E.rt }) : WSs X st ρ M E := fun σ H a D l => h σ H a D ⟨l.nx, fun v d M2 H2 ⟨d', M3, Gs, e1, fz, q⟩ m f r => by
  subst e1
  exact l.rt v d' M3 H2 q m.drops (Ex.trans f hid_app) (fz.rp m r), l.bk, l.ct⟩
/-! ### methods -/
def RcvV (X : Cx) (T : String) (v : V) (H : Hp) : Prop := ∀ pins σ s u, Inv X pins σ H s → RelV v u → s.TypeIs u T ∧ ∀ a, u = .ref a → ∃ ob, s.heap.get? a = some ob ∧ ob.dict = none
def tBMX (X : Cx) (T : String) (r : V → List V → Hp → VK → Prop) (to : TE) (t : TA) : TE := fun σ H Q => to σ H fun x H1 => RcvV X T x H1 ∧ t σ H1 fun xs H2 => r x xs H2 Q
def tBM0X (X : Cx) (T : String) (r : V → List V → Hp → VK → Prop) (to : TE) : TE := fun σ H Q => to σ H fun x H1 => RcvV X T x H1 ∧ r x [] H1 Q
theorem pe_bm0X {o : Expr} {to : TE} {name : Str} {apos cpos : Pos} {T id : String} {r : V → List V → Hp → VK → Prop} (pa : PlainAttrs T) (slot : Slot T name id) (hty : typeOf (.builtin id) = pure (.type "method_descriptor")) (hm : MtR X id r) (ho : PE X o to)
    (hbase : attributeBase o name X.env (eval o X.env) = eval o X.env := by rfl) (hline : (apos.endLine == cpos.line) = true := by rfl) : PE X (.Call (.Attribute o name apos) [] [] cpos) (tBM0X X T r to) := by
  refine ⟨fun pins s σ H Q I h => ?_⟩
  refine wpAny_Call_method0_late hbase hline (thn (ho.run pins s σ H _ I h) fun v s1 ⟨x, H1, I1, r1, ty, q1⟩ => ?_)
  obtain ⟨h1, h2⟩ := ty pins σ s1 v I1 r1
  exact ⟨T, id, pa, slot, hty, h1, h2, Calls.callWith_builtin rfl (PySem.evalArgs_none (hm pins s1 σ H1 x [] v [] Q I1 r1 .nil q1))⟩
theorem pe_bmX {o e : Expr} {es : List Expr} {to : TE} {t : TA} {name : Str} {apos cpos : Pos} {T id : String} {r : V → List V → Hp → VK → Prop} (pa : PlainAttrs T) (slot : Slot T name id) (hty : typeOf (.builtin id) = pure (.type "method_descriptor")) (hm : MtR X id r) (ho : PE X o to) (ha : PA X (e :: es) t)
    (hbase : attributeBase o name X.env (eval o X.env) = eval o X.env := by rfl)
    (hfew : ((backTo cpos (starEach (e :: es) X.env)).all (fun x => !x.1) && (backToKw cpos (keywordEach [] X.env)).all (fun x => x.1.isSome)
      && decide ((e :: es).length + ([] : List Keyword).length + (if ([] : List Keyword).isEmpty then 0 else 1) < 30)) = true := by rfl)
    (hline : (apos.endLine == cpos.line) = true := by rfl) (hs : starEach (e :: es) X.env = (false, eval e X.env) :: starEach es X.env := by rfl) (hplain : (backTo cpos (starEach es X.env)).any (·.1) = false := by rfl) :
    PE X (.Call (.Attribute o name apos) (e :: es) [] cpos) (tBMX X T r to t) := by
  refine ⟨fun pins s σ H Q I h => ?_⟩
  refine wpAny_Call_method_late hbase hfew hline rfl (thn (ho.run pins s σ H _ I h) fun v s1 ⟨x, H1, I1, r1, ty, q1⟩ => ?_)
  obtain ⟨h1, h2⟩ := ty pins σ s1 v I1 r1
  refine ⟨T, id, pa, slot, hty, h1, h2, ?_⟩
  have hA := ha.run cpos pins s1 σ H1 _ I1 q1
  rw [hs] at hA ⊢
  refine Calls.callWith_builtin (by show (false || (backTo cpos (starEach es X.env)).any (·.1)) = false; rw [hplain] <;> rfl) (Calls.evalArgs_plain ?_)
  exact thn hA fun us s2 ⟨vs, H2, I2, r2, q2⟩ => hm pins s2 σ H2 x vs v us Q I2 r1 r2 q2
@[irreducible] def wpM (X : Cx) (id : String) (x : V) (vs : List V) (H : Hp) (Q : VK) : Prop := ∀ pins s σ v us, Inv X pins σ H s → RelV x v → Vals vs us → wpAny (model X.prog X.w) X.A (call (.builtin id) (v :: us)) (EP X pins σ Q) X.xe s
theorem mt_wp {id : String} : MtR X id (wpM X id) := fun pins s σ H x xs v us Q I rx rv h => by unfold wpM at h; exact h pins s σ v us I rx rv
theorem wp_mt {id : String} {r : V → List V → Hp → VK → Prop} (p : MtR X id r) {x : V} {vs : List V} {H : Hp} {Q : VK} (h : r x vs H Q) : wpM X id x vs H Q := by unfold wpM; exact fun pins s σ v us I rx rv => p pins s σ H x vs v us Q I rx rv h
/-- a method of a thing on data -/
def WM (X : Cx) (id : String) (d : D) (ds : List D) (M : MS) (Q : D → MS → Prop) : Prop := ∀ H v vs, MSt (gx X) M H → Rp (gx X) (hid (adr M) H) v d → RpA (gx X) (hid (adr M) H) vs ds → ∀ Qv, Lft (gx X) M H Q Qv → wpM X id v vs H Qv
def Rcv (X : Cx) (T : String) (d : D) (M : MS) : Prop := ∀ H v, MSt (gx X) M H → Rp (gx X) (hid (adr M) H) v d → RcvV X T v H
theorem rcv_list {d : D} {ds : List D} (s : SqO M d ds) : Rcv X "list" d M := fun H v m r pins σ st u I ru => by
  obtain ⟨p, vs, rfl, hq, _⟩ := s.v (X := X) m r
  exact tyV_is I ru (.inl ⟨rfl, vs, sq_of hq⟩)
theorem rcv_tupN {ds : List D} : Rcv X "tuple" (.tupN ds) M := fun H v m r pins σ st u I ru => by
  cases r with
  | @tupN a vs _ o h h0 ra =>
    cases ru
    have e : st.heap.get? a = some o ∧ ObjOk X.prog X.w H st.heap a (.tup vs) := I.hok a _ (hid_ex _ _ h)
    obtain ⟨e1, _, its, _, o', h1, h2, _⟩ := e
    rw [h1] at e1
    cases e1
    refine ⟨⟨o, h1, h2⟩, fun c ec => ?_⟩
    cases ec
    exact ⟨o, h1, h0⟩
theorem we_bm {o e : Expr} {es : List Expr} {name : Str} {apos cpos : Pos} {T id : String} (pa : PlainAttrs T) (slot : Slot T name id) (hty : typeOf (.builtin id) = pure (.type "method_descriptor")) (ho : WE X o ρ M fun d M1 => Rcv X T d M1 ∧ WA X (e :: es) ρ M1 fun ds M2 => WM X id d ds M2 Q)
    (hbase : attributeBase o name X.env (eval o X.env) = eval o X.env := by rfl)
    (hfew : ((backTo cpos (starEach (e :: es) X.env)).all (fun x => !x.1) && (backToKw cpos (keywordEach [] X.env)).all (fun x => x.1.isSome)
      && decide ((e :: es).length + ([] : List Keyword).length + (if ([] : List Keyword).isEmpty then 0 else 1) < 30)) = true := by rfl)
    (hline : (apos.endLine == cpos.line) = true := by rfl) (hs : starEach (e :: es) X.env = (false, eval e X.env) :: starEach es X.env := by rfl) (hplain : (backTo cpos (starEach es X.env)).any (·.1) = false := by rfl) :
    WE X (.Call (.Attribute o name apos) (e :: es) [] cpos) ρ M Q := fun σ H a Qv l => by
  refine wp_pe (pe_bmX pa slot hty mt_wp pe_wp pa_wp hbase hfew hline hs hplain) (ho σ H a _ fun v d M1 H1 ⟨rc, q1⟩ m1 f1 r1 => ⟨rc H1 v m1 r1, ?_⟩)
  exact q1 σ H1 (a.step m1 f1) _ fun vs ds M2 H2 q2 m2 f2 r2 => q2 H2 v vs m2 (r1.mono f2) r2 _ (l.go (Ex.trans f1 f2))
theorem we_bm0 {o : Expr} {name : Str} {apos cpos : Pos} {T id : String} (pa : PlainAttrs T) (slot : Slot T name id) (hty : typeOf (.builtin id) = pure (.type "method_descriptor")) (ho : WE X o ρ M fun d M1 => Rcv X T d M1 ∧ WM X id d [] M1 Q)
    (hbase : attributeBase o name X.env (eval o X.env) = eval o X.env := by rfl) (hline : (apos.endLine == cpos.line) = true := by rfl) : WE X (.Call (.Attribute o name apos) [] [] cpos) ρ M Q := fun σ H a Qv l => by
  refine wp_pe (pe_bm0X pa slot hty mt_wp pe_wp hbase hline) (ho σ H a _ fun v d M1 H1 ⟨rc, q1⟩ m1 f1 r1 => ⟨rc H1 v m1 r1, ?_⟩)
  exact q1 H1 v [] m1 r1 .nil _ (l.go f1)
theorem wm_mt {id : String} {r : V → List V → Hp → VK → Prop} {d : D} {ds : List D} (p : MtR X id r) (h : ∀ H v vs, MSt (gx X) M H → Rp (gx X) (hid (adr M) H) v d → RpA (gx X) (hid (adr M) H) vs ds → ∀ Qv, Lft (gx X) M H Q Qv → r v vs H Qv) : WM X id d ds M Q := fun H v vs m rv ra Qv l => wp_mt p (h H v vs m rv ra Qv l)
/-- after a write at k -/
theorem Lft.put {G : GX} {H : Hp} {Qv : VK} {kk : Nat} {p : Addr} {mo : MO} {o : HO} {v : V} {d : D} (l : Lft G M H Q Qv) (mo' : MO) (m : MSt G M H) (hk : M[kk]? = some (p, mo)) (c : MCt G (hid (adr M) H) p mo' o) (q : Q d (M.set kk (p, mo'))) (r : Rp G (hid (adr M) H) v d) : Qv v (upd H p o) := by
  have f : Fx M H (M.set kk (p, mo')) (upd H p o) := by
    show Ex _ (hid (adr (M.set kk (p, mo'))) _)
    rw [adr_set hk, hid_upd (mem_adr hk)]
    exact Ex.refl _
  exact l v d _ _ q (m.upd hk c) f (r.mono f)
theorem wm_append {p : Addr} {xs : List D} {d : D} (kk : Nat) (hk : M[kk]? = some (p, .lst xs)) (z : xs.length < 16000000) (q : Q .non (M.set kk (p, .lst (xs ++ [d])))) : WM X "list.append" (.ref p) [d] M Q := wm_mt mt_append fun H v vs m rv ra Qv l => by
  cases rv
  cases ra with
  | cons r1 ra =>
    cases ra
    obtain ⟨o, h1, us, e, h2⟩ := m.at hk
    subst e
    exact ⟨p, us, _, rfl, rfl, h1, by rw [h2.len, sizeLine_eq]; omega, l.put (.lst _) m hk ⟨_, rfl, h2.app (.cons r1 .nil)⟩ q .non⟩
theorem wm_extend {p : Addr} {xs ys : List D} {d : D} (kk : Nat) (hk : M[kk]? = some (p, .lst xs)) (s : SqO M d ys) (z : xs.length + ys.length ≤ 16000000) (q : Q .non (M.set kk (p, .lst (xs ++ ys)))) : WM X "list.extend" (.ref p) [d] M Q := wm_mt mt_extend fun H v vs m rv ra Qv l => by
  cases rv
  cases ra with
  | cons r1 ra =>
    cases ra
    obtain ⟨o, h1, us, e, h2⟩ := m.at hk
    subst e
    obtain ⟨p', ws, rfl, h3, h4⟩ := s.v m r1
    exact ⟨p, p', us, ws, rfl, rfl, h1, h3, by rw [h2.len, h4.len, sizeLine_eq]; omega, l.put (.lst _) m hk ⟨_, rfl, h2.app h4⟩ q .non⟩
theorem RpA.dropLast {G : GX} {H : Hp} {vs : List V} {ds : List D} (r : RpA G H vs ds) : RpA G H vs.dropLast ds.dropLast := by
  rw [List.dropLast_eq_take, List.dropLast_eq_take, r.len]
  exact r.take _
theorem wm_pop {p : Addr} {xs : List D} {d : D} (kk : Nat) (hk : M[kk]? = some (p, .lst (xs ++ [d]))) (q : Q d (M.set kk (p, .lst xs))) : WM X "list.pop" (.ref p) [] M Q := wm_mt mt_pop fun H v vs m rv ra Qv l => by
  cases rv
  cases ra
  obtain ⟨o, h1, us, e, h2⟩ := m.at hk
  subst e
  have hl : us.length = xs.length + 1 := by rw [h2.len]; simp
  obtain ⟨y, ey, ry⟩ := h2.get (i := xs.length) (d := d) (by simp)
  have e2 := h2.dropLast
  rw [List.dropLast_concat] at e2
  exact ⟨p, us, y, rfl, rfl, h1, by rw [hl]; exact ey, l.put (.lst _) m hk ⟨_, rfl, e2⟩ q ry⟩
/-- the first place of a whole number -/
theorem wm_indexI {d : D} {ns : List Int} {i : Int} {j : Nat} (s : SqO M d (ns.map .int)) (hj : ns[j]? = some i) (hno : ∀ m, m < j → ns[m]? ≠ some i) (q : Q (.int j) M) : WM X "list.index" d [.int i] M Q := wm_mt mt_index fun H v vs m rv ra Qv l => by
  cases ra with
  | cons r1 ra =>
    cases ra
    cases r1
    obtain ⟨p, vs, rfl, hq, ra⟩ := s.v (X := X) m rv
    have e := ra.ints
    subst e
    refine ⟨p, _, .int i, j, .int i, rfl, rfl, sq_of hq, rfl, ?_, by rw [List.getElem?_map, hj]; rfl, by simp [eqV], fun m' z' hm hz => ?_, l _ _ M H q m Fx.refl (.int _)⟩
    · rw [List.all_map]; exact List.all_eq_true.mpr fun _ _ => rfl
    · rw [List.getElem?_map] at hz
      cases e : ns[m']? with
      | none => rw [e] at hz; cases hz
      | some n =>
        rw [e] at hz
        cases hz
        have ne : n ≠ i := fun q => hno m' hm (by rw [e, q])
        simpa [eqV] using ne
/-! ### stores -/
@[irreducible] def wpSt (X : Cx) (o i v : V) (H : Hp) (Q : Hp → Prop) : Prop := ∀ pins s σ ov iv u, Inv X pins σ H s → RelV o ov → RelV i iv → RelV v u → wpAny (model X.prog X.w) X.A (setItem ov iv u) (fun _ s' => ∃ H', Inv X pins σ H' s' ∧ Q H') X.xe s
theorem st_wp : PSet X (wpSt X) := fun pins s σ H o i v ov iv u Q I ro ri rv h => by unfold wpSt at h; exact h pins s σ ov iv u I ro ri rv
theorem wp_st {t : TSet} (p : PSet X t) {o i v : V} {H : Hp} {Q : Hp → Prop} (h : t o i v H Q) : wpSt X o i v H Q := by unfold wpSt; exact fun pins s σ ov iv u I ro ri rv => p pins s σ H o i v ov iv u Q I ro ri rv h
def LftM (G : GX) (M : MS) (H : Hp) (Q : MS → Prop) (Qv : Hp → Prop) : Prop := ∀ M' H', Q M' → MSt G M' H' → Fx M H M' H' → Qv H'
/-- d1[d2] = d -/
def WSt (X : Cx) (d1 d2 d : D) (M : MS) (Q : MS → Prop) : Prop := ∀ H v1 v2 v, MSt (gx X) M H → Rp (gx X) (hid (adr M) H) v1 d1 → Rp (gx X) (hid (adr M) H) v2 d2 → Rp (gx X) (hid (adr M) H) v d → ∀ Qv, LftM (gx X) M H Q Qv → wpSt X v1 v2 v H Qv
theorem LftM.put {G : GX} {H : Hp} {Q : MS → Prop} {Qv : Hp → Prop} {kk : Nat} {p : Addr} {mo : MO} {o : HO} (l : LftM G M H Q Qv) (mo' : MO) (m : MSt G M H) (hk : M[kk]? = some (p, mo)) (c : MCt G (hid (adr M) H) p mo' o) (q : Q (M.set kk (p, mo'))) : Qv (upd H p o) := by
  refine l _ _ q (m.upd hk c) ?_
  show Ex _ (hid (adr (M.set kk (p, mo'))) _)
  rw [adr_set hk, hid_upd (mem_adr hk)]
  exact Ex.refl _
theorem wst_list {p : Addr} {xs : List D} {d : D} {i : Int} {j : Nat} {Q : MS → Prop} (kk : Nat) (hk : M[kk]? = some (p, .lst xs)) (hj : ixN xs.length i = some j) (q : Q (M.set kk (p, .lst (xs.set j d)))) : WSt X (.ref p) (.int i) d M Q := fun H v1 v2 v m r1 r2 r Qv l => by
  cases r1
  cases r2
  obtain ⟨o, h1, us, e, h2⟩ := m.at hk
  subst e
  exact wp_st set_list ⟨p, us, i, j, rfl, rfl, h1, by rw [h2.len]; exact hj, l.put (.lst _) m hk ⟨_, rfl, h2.set j r⟩ q⟩
theorem wg_sub {o i : Expr} {d : D} {Q : EnvD → MS → Prop} (ho : WE X o ρ M fun d1 M1 => WE X i ρ M1 fun d2 M2 => WSt X d1 d2 d M2 (Q ρ))
    (ha : ∀ v, assign (.Subscript o i pos) X.env v = (do
      let ov ← holding [v] (eval o X.env)
      let iv ← holding [v, ov] (eval i X.env)
      standAt pos
      holding [v, ov, iv] (setItem ov iv v)
      release [v, ov, iv] []) := by intro _; rfl) : WG X (.Subscript o i pos) d ρ M Q := fun v σ H a r Qv l => by
  refine wp_pg (pg_sub pe_wp pe_wp st_wp ha) (ho σ H a _ fun v1 d1 M1 H1 q1 m1 f1 r1 => ?_)
  refine q1 σ H1 (a.step m1 f1) _ fun v2 d2 M2 H2 q2 m2 f2 r2 => ?_
  exact q2 H2 v1 v2 v m2 (r1.mono f2) r2 (r.mono (Ex.trans f1 f2)) _ fun M3 H3 q3 m3 f3 => l ρ M3 σ H3 q3 (((a.step m1 f1).step m2 f2).step m3 f3) (Ex.trans f1 (Ex.trans f2 f3))
/-- any kinds of targets one after another -/
theorem wgs_any {t : Expr} {ts : List Expr} {d : D} {ds : List D} {Q : EnvD → MS → Prop} (h : WG X t d ρ M fun ρ1 M1 => WGs X ts ds ρ1 M1 Q)
    (hs : (assignEach (t :: ts) X.env).map (·.2) = assign t X.env :: (assignEach ts X.env).map (·.2) := by rfl) : WGs X (t :: ts) (d :: ds) ρ M Q := by
  refine ⟨_, pgs_cons pg_wp pgs_wp hs, fun vs σ H a r Qv l => ?_⟩
  cases r with
  | cons r rr =>
    refine ⟨_, _, rfl, h _ σ H a r _ fun ρ1 M1 σ1 H1 q1 a1 f1 => ?_⟩
    obtain ⟨t', p', q'⟩ := q1
    intro pins s us I rv
    exact p'.run pins s σ1 H1 _ us Qv I rv (q' _ σ1 H1 a1 (rr.mono f1) Qv (l.go f1))
/-! ### the environment by its scope -/
theorem XOk.env (h : XOk X N sc k b) : X.env = { X.env with scope := sc } := by rw [← h.scp]
/-! ### slices -/
def cutA {α : Type} (xs : List α) (lo hi : Option Int) : List α := (xs.drop (HT.sIx xs.length 0 lo)).take (HT.sIx xs.length xs.length hi - HT.sIx xs.length 0 lo)
theorem RpA.cut {G : GX} {H : Hp} {vs : List V} {ds : List D} (r : RpA G H vs ds) (lo hi : Option Int) : RpA G H (cutV vs lo hi) (cutA ds lo hi) := by
  unfold cutV cutA
  rw [r.len]
  exact (r.drop _).take _
def tPo (X : Cx) : Option Expr → TO
  | none => tNoPart
  | some e => tPart (wpE X e)
theorem po_any : ∀ {o : Option Expr}, PO X o (tPo X o)
  | none => po_none
  | some _ => po_some pe_wp
def WP (X : Cx) (o : Option Expr) (ρ : EnvD) (M : MS) (i : Option Int) : Prop := match o with
  | none => i = none
  | some e => ∃ j, i = some j ∧ DE X e ρ M (.int j) M
theorem wp_part {o : Option Expr} {i : Option Int} (h : WP X o ρ M i) {σ : L2.St} {H : Hp} (a : At (gx X) ρ M σ H) {Q : Option Int → Hp → Prop} (q : ∀ H', MSt (gx X) M H' → Fx M H M H' → Q i H') : tPo X o σ H Q := by
  cases o with
  | none => cases h; exact q H a.m Fx.refl
  | some e =>
    obtain ⟨j, rfl, h⟩ := h
    exact h σ H a _ fun v d M' H' ⟨e1, e2⟩ m f r => by subst e1 e2; cases r; exact ⟨j, rfl, q H' m f⟩
theorem wo_slice {e : Expr} {lo hi : Option Expr} {p2 : Pos} {i j : Option Int} (he : WE X e ρ M fun d M1 => WP X lo ρ M1 i ∧ WP X hi ρ M1 j ∧ ∃ ds, SqO M1 d ds ∧ ∀ p, Q (.ref p) ((p, .lst (cutA ds i j)) :: M1)) : WE X (.Subscript e (.Slice lo hi none p2) pos) ρ M Q := fun σ H a Qv l => by
  refine wp_pe (pe_slice sl_list pe_wp po_any po_any) (he σ H a _ fun v d M1 H1 ⟨h1, h2, ds, s, q⟩ m1 f1 r1 => ?_)
  refine wp_part h1 (a.step m1 f1) fun H2 m2 f2 => wp_part h2 ((a.step m1 f1).step m2 f2) fun H3 m3 f3 => ?_
  obtain ⟨p, vs, rfl, hq, ra⟩ := s.v (X := X) m3 (r1.mono (Ex.trans f2 f3))
  exact ⟨p, vs, rfl, sq_of hq, fun p hp => new_lst (l.go (Ex.trans f1 (Ex.trans f2 f3))) m3 (ra.cut i j) q hp⟩
theorem wo_sliceK {e : Expr} {lo hi : Option Expr} {p2 : Pos} {i j : Option Int} (he : WE X e ρ M fun d M1 => WP X lo ρ M1 i ∧ WP X hi ρ M1 j ∧ ∃ ds, d = .lsK ds ∧ ∀ p, Q (.ref p) ((p, .lst (cutA ds i j)) :: M1)) : WE X (.Subscript e (.Slice lo hi none p2) pos) ρ M Q := fun σ H a Qv l => by
  refine wp_pe (pe_slice sl_list pe_wp po_any po_any) (he σ H a _ fun v d M1 H1 ⟨h1, h2, ds, s, q⟩ m1 f1 r1 => ?_)
  subst s
  refine wp_part h1 (a.step m1 f1) fun H2 m2 f2 => wp_part h2 ((a.step m1 f1).step m2 f2) fun H3 m3 f3 => ?_
  have r3 := r1.mono (Ex.trans f2 f3)
  cases r3 with
  | lsK hq ra => exact ⟨_, _, rfl, ex_l hid_ex hq, fun p hp => new_lst (l.go (Ex.trans f1 (Ex.trans f2 f3))) m3 (ra.cut i j) q hp⟩
theorem we_sliceT {e : Expr} {lo hi : Option Expr} {p2 : Pos} {i j : Option Int} (he : WE X e ρ M fun d M1 => WP X lo ρ M1 i ∧ WP X hi ρ M1 j ∧ ∃ ds, d = .tup ds ∧ Q (.tup (cutA ds i j)) M1) : WE X (.Subscript e (.Slice lo hi none p2) pos) ρ M Q := fun σ H a Qv l => by
  refine wp_pe (pe_slice sl_tupA pe_wp po_any po_any) (he σ H a _ fun v d M1 H1 ⟨h1, h2, ds, s, q⟩ m1 f1 r1 => ?_)
  subst s
  refine wp_part h1 (a.step m1 f1) fun H2 m2 f2 => wp_part h2 ((a.step m1 f1).step m2 f2) fun H3 m3 f3 => ?_
  have r3 := r1.mono (Ex.trans f2 f3)
  cases r3 with
  | tup hq ra =>
    have l3 := l.go (Ex.trans f1 (Ex.trans f2 f3))
    refine ⟨_, _, rfl, ex_t hid_ex hq, fun e => ?_, fun _ p hp => new_tup l3 m3 (ra.cut i j) q hp⟩
    have ec : cutA ds i j = ds := by
      unfold cutA
      rw [← ra.len, e.1, e.2, ra.len, List.drop_zero, Nat.sub_zero, List.take_length]
    rw [ec] at q
    exact l3 _ _ M1 H3 q m3 Fx.refl (.tup hq ra)
theorem wo_rev {e : Expr} {kk : Nat} {p1 p2 p3 : Pos} (he : WE X e ρ M fun d M1 => ∃ ds, SqO M1 d ds ∧ ∀ p, Q (.ref p) ((p, .lst ds.reverse) :: M1)) : WE X (.Subscript e (.Slice none none (some (.UnaryOp .USub (.Constant (.int 1) kk p1) p2)) p3) pos) ρ M Q := fun σ H a Qv l => by
  refine wp_pe (pe_revL pe_wp) (he σ H a _ fun v d M1 H1 ⟨ds, s, q⟩ m1 f1 r1 => ?_)
  obtain ⟨p, vs, rfl, hq, ra⟩ := s.v (X := X) m1 r1
  exact ⟨p, vs, rfl, sq_of hq, fun p hp => new_lst (l.go f1) m1 ra.rev q hp⟩
/-! ### a op b op c -/
theorem we_chain {a c d : Expr} {op op' : CmpOp} (h : WE X a ρ M fun d1 M1 => WE X c ρ M1 fun d2 M2 => WO X (compareOp op) d1 d2 M2 fun z M3 => ∃ t, z = .bl t ∧ (t = true → WE X d ρ M3 fun d3 M4 => (∀ d2', d2' = d2 → WO X (compareOp op') d2' d3 M4 Q)) ∧ (t = false → Q (.bl false) M3))
    (hm : lastMarks [op, op'] [c, d] = false := by with_unfolding_all rfl) : WE X (.Compare a [op, op'] [c, d] pos) ρ M Q := fun σ H at0 Qv l => by
  refine wp_pe (pe_chain or_wp or_wp pe_wp pe_wp pe_wp hm) (h σ H at0 _ fun v1 d1 M1 H1 q1 m1 f1 r1 => ?_)
  refine q1 σ H1 (at0.step m1 f1) _ fun v2 d2 M2 H2 q2 m2 f2 r2 => ?_
  refine q2 H2 v1 v2 m2 (r1.mono f2) r2 _ fun v3 d3 M3 H3 ⟨t, e3, qt, qf⟩ m3 f3 r3 => ?_
  subst e3
  cases r3
  refine ⟨t, rfl, ?_⟩
  have f13 : Fx M H M3 H3 := Ex.trans f1 (Ex.trans f2 f3)
  cases t with
  | true =>
    rw [if_pos rfl]
    refine qt rfl σ H3 (at0.step m3 f13) _ fun v4 d4 M4 H4 q4 m4 f4 r4 => ?_
    exact q4 d2 rfl H4 v2 v4 m4 ((r2.mono f3).mono f4) r4 _ (l.go (Ex.trans f13 f4))
  | false =>
    rw [if_neg Bool.false_ne_true]
    exact l _ _ M3 H3 (qf rfl) m3 f13 (.bl _)
/-! ### x or y, x a list -/
theorem we_orL {a c : Expr} {rest : List Expr} (h : WE X a ρ M fun d M1 => ∃ ds, SqO M1 d ds ∧ (ds ≠ [] → Q d M1) ∧ (ds = [] → WE X (.BoolOp .Or (c :: rest) pos) ρ M1 Q)) : WE X (.BoolOp .Or (a :: c :: rest) pos) ρ M Q := fun σ H at0 Qv l => by
  refine wp_pe (pe_orT pe_wp pe_wp) (h σ H at0 _ fun v d M1 H1 ⟨ds, s, q1, q2⟩ m1 f1 r1 => ?_)
  have r1' := r1
  obtain ⟨p, vs, rfl, hq, ra⟩ := s.v (X := X) m1 r1
  refine ⟨!vs.isEmpty, .inl ⟨vs, sq_of hq, rfl⟩, ?_⟩
  cases ra with
  | nil => rw [if_neg (by simp)]; exact q2 rfl σ H1 (at0.step m1 f1) Qv (l.go f1)
  | cons _ _ => rw [if_pos (by simp)]; exact l _ _ M1 H1 (q1 (by simp)) m1 f1 r1'
end
end DL

set_option maxHeartbeats 4000000
/-! DL: dicts with keys that are tuples. -/
namespace DL
open PySem PySem.Spec PyProof.Rows L2 Evl

abbrev NK := NestedKey
def putN (kvs : List (NK × D)) (k : NK) (d : D) : List (NK × D) := if (kvs.lookup k).isSome = true then kvs.map (fun x => if x.1 = k then (x.1, d) else x) else kvs ++ [(k, d)]
def putsN (kvs : List (NK × D)) (ps : List (NK × D)) : List (NK × D) := ps.foldl (fun acc p => putN acc p.1 p.2) kvs
section
variable {G : GX} {H H' : Hp}
theorem RpN.len : ∀ {xs : List Ent} {kvs : List (NK × D)}, RpN G H xs kvs → xs.length = kvs.length
  | _, _, .nil => rfl
  | _, _, .cons _ _ _ _ r => congrArg (· + 1) r.len
theorem RpN.keys : ∀ {xs : List Ent} {kvs : List (NK × D)}, RpN G H xs kvs → xs.map (·.1) = kvs.map (·.1)
  | _, _, .nil => rfl
  | _, _, .cons _ _ _ _ r => by rw [List.map_cons, List.map_cons, r.keys]
theorem RpN.app : ∀ {xs ys : List Ent} {kvs lvs : List (NK × D)}, RpN G H xs kvs → RpN G H ys lvs → RpN G H (xs ++ ys) (kvs ++ lvs)
  | _, _, _, _, .nil, s => s
  | _, _, _, _, .cons a b c d r, s => .cons a b c d (r.app s)
theorem RpN.at : ∀ {xs : List Ent} {kvs : List (NK × D)} {k : NK}, RpN G H xs kvs → match kvs.lookup k with
    | some d => ∃ a u v, atKey xs k = some (a, u) ∧ RelV v u ∧ Rp G H v d
    | none => atKey xs k = none
  | _, _, k, .nil => by simp [List.lookup, atKey]
  | (k', a, u) :: xs, (_, d) :: kvs, k, .cons h1 h2 h3 h4 r => by
    have ih := RpN.at (k := k) r
    by_cases e : k' = k
    · subst e
      have e1 : List.lookup k' ((k', d) :: kvs) = some d := by simp [List.lookup]
      rw [e1]
      exact ⟨a, u, _, by simp [atKey], h3, h4⟩
    · have e1 : List.lookup k ((k', d) :: kvs) = List.lookup k kvs := by
        have : (k == k') = false := by simpa using fun q => e q.symm
        simp [List.lookup, this]
      have e2 : atKey ((k', a, u) :: xs) k = atKey xs k := by simp [atKey, List.find?, e]
      rw [e1, e2]
      exact ih
theorem RpN.isSome {xs : List Ent} {kvs : List (NK × D)} {k : NK} (r : RpN G H xs kvs) : (atKey xs k).isSome = (kvs.lookup k).isSome := by
  have := r.at (k := k)
  cases e : kvs.lookup k with
  | none => rw [e] at this; simp only at this; rw [this]; rfl
  | some d =>
    rw [e] at this
    obtain ⟨a, u, v, h, _⟩ := this
    rw [h]; rfl
theorem RpN.putAll : ∀ {xs : List Ent} {kvs : List (NK × D)} {k : NK} {v : V} {u : Value} {d : D}, RpN G H xs kvs → RelV v u → Rp G H v d → RpN G H (xs.map (putAt k u)) (kvs.map fun x => if x.1 = k then (x.1, d) else x)
  | _, _, _, _, _, _, .nil, _, _ => .nil
  | (k', a, u') :: xs, (_, d') :: kvs, k, v, u, d, .cons h1 h2 h3 h4 r, ru, rd => by
    rw [List.map_cons, List.map_cons]
    by_cases e : k' = k
    · simp only [putAt, e, if_true]
      subst e
      exact .cons h1 h2 ru rd (r.putAll ru rd)
    · simp only [putAt, e, if_false]
      exact .cons h1 h2 h3 h4 (r.putAll ru rd)
theorem RpN.put {xs : List Ent} {kvs : List (NK × D)} {k : NK} {a : Addr} {v : V} {u : Value} {d : D} (r : RpN G H xs kvs) (hk : Rp G H (.ref a) (keyD k)) (z : k.depth ≤ 8) (ru : RelV v u) (rd : Rp G H v d) : RpN G H (storedH xs k a u) (putN kvs k d) := by
  unfold storedH putN
  rw [r.isSome]
  split
  · exact r.putAll ru rd
  · exact r.app (.cons hk z ru rd .nil)
theorem RpN.puts : ∀ {ps : List Ent} {xs : List Ent} {kvs qs : List (NK × D)}, RpN G H xs kvs → RpN G H ps qs → RpN G H (storedAllH xs ps) (putsN kvs qs)
  | _, _, _, _, r, .nil => r
  | _, _, _, _, r, .cons a z ru rd t => by
    have h := RpN.puts (r.put a z ru rd) t
    exact h
theorem storedH_nodup {xs : List Ent} {k : NK} {a : Addr} {u : Value} (h : (xs.map (·.1)).Nodup) : ((storedH xs k a u).map (·.1)).Nodup := by
  unfold storedH
  split
  · rw [List.map_map]
    have e : (fun x : Ent => x.1) ∘ putAt k u = fun x : Ent => x.1 := by
      funext x
      simp only [Function.comp, putAt]
      split <;> rfl
    rw [e]; exact h
  · rename_i hn
    rw [List.map_append, List.map_singleton, List.nodup_append]
    refine ⟨h, by simp, fun x hx y hy e => ?_⟩
    simp only [List.mem_singleton] at hy
    subst hy e
    obtain ⟨z, hz, ez⟩ := List.mem_map.mp hx
    apply hn
    unfold atKey
    rw [Option.isSome_map, List.find?_isSome]
    exact ⟨z, hz, decide_eq_true ez⟩
theorem storedAllH_nodup : ∀ {ps xs : List Ent}, (xs.map (·.1)).Nodup → ((storedAllH xs ps).map (·.1)).Nodup
  | [], _, h => h
  | _ :: ps, _, h => storedAllH_nodup (ps := ps) (storedH_nodup h)
theorem storedAllH_len : ∀ {ps xs : List Ent}, (storedAllH xs ps).length ≤ xs.length + ps.length
  | [], _ => Nat.le_refl _
  | p :: ps, xs => by
    have h1 := storedAllH_len (ps := ps) (xs := storedH xs p.1 p.2.1 p.2.2)
    have h2 := storedH_length xs p.1 p.2.1 p.2.2
    have h3 : storedAllH xs (p :: ps) = storedAllH (storedH xs p.1 p.2.1 p.2.2) ps := rfl
    rw [h3, List.length_cons]
    omega
end
section
variable {X : Cx} {pins : List (Addr × Obj)} {σ : L2.St} {H : Hp} {s : Shared}
mutual
theorem nested_of (I : Inv X pins σ H s) : ∀ {k : NK} {v : V} {u : Value}, Rp (gx X) H v (keyD k) → RelV v u → NestedIs s.heap k u
  | .none, _, _, r, ru => by
    simp only [keyD] at r
    cases r
    cases ru
    exact .none
  | .num i, _, _, r, ru => by
    simp only [keyD] at r
    cases r
    obtain ⟨t, rfl⟩ := ru
    exact .int i t
  | .text x, _, _, r, ru => by
    simp only [keyD] at r
    cases r
    obtain ⟨t, rfl⟩ := ru
    exact .text x t
  | .tup ks, _, _, r, ru => by
    simp only [keyD] at r
    cases r with
    | tup hs ra =>
      cases ru
      obtain ⟨its, rv, ⟨o, h1, h2, n, h3⟩, _⟩ := I.tuple hs
      exact .tup h1 h2 h3 (by simpa using nesteds_of I ra rv)
theorem nesteds_of (I : Inv X pins σ H s) : ∀ {ks : List NK} {vs : List V} {us : List Value}, RpA (gx X) H vs (keyDs ks) → Vals vs us → NestedAll s.heap ks us
  | [], _, _, ra, rv => by
    simp only [keyDs] at ra
    cases ra
    cases rv
    exact .nil
  | k :: ks, _, _, ra, rv => by
    simp only [keyDs] at ra
    cases ra with
    | cons r ra =>
      cases rv with
      | cons ru rv => exact .cons (nested_of I r ru) (nesteds_of I ra rv)
end
theorem key_of (I : Inv X pins σ H s) {k : NK} {a : Addr} (r : Rp (gx X) H (.ref a) (keyD k)) (z : k.depth ≤ 8) : (nestedKind X.prog X.w).is s.heap k a := ⟨nested_of I r rfl, z⟩
theorem keys_of (I : Inv X pins σ H s) : ∀ {xs : List Ent} {kvs : List (NK × D)}, RpN (gx X) H xs kvs → ∀ x ∈ xs, (nestedKind X.prog X.w).is s.heap x.1 x.2.1
  | _, _, .nil => fun _ h => nomatch h
  | _, _, .cons a z _ _ r => fun x hx => by
    rcases List.mem_cons.mp hx with e | hx
    · rw [e]; exact key_of I a z
    · exact keys_of I r x hx
/-- the dict behind its own fact -/
theorem dict_of (I : Inv X pins σ H s) {p : Addr} {xs : List Ent} {ep : Nat} {kvs : List (NK × D)} (h : H p = some (.ext (fN (gx X) p xs ep))) (nd : (xs.map (·.1)).Nodup) (r : RpN (gx X) H xs kvs) : (p == sysModules) = false ∧ xs.length ≤ sizeLine ∧ s.heap.DictOfH (nestedKind X.prog X.w) p xs := by
  obtain ⟨⟨h1, h2, o, es, h3, h4, h5, h6⟩, _⟩ := (show ObjOk X.prog X.w H s.heap p (.ext _) from I.hok p _ h)
  exact ⟨h1, h2, o, es, ep, h3, h4, h5, h6, keys_of I r, nd⟩
theorem fN_ok {p : Addr} {xs : List Ent} {h : Heap} (h1 : (p == sysModules) = false) (h2 : xs.length ≤ sizeLine) (h3 : h.DictOfH (nestedKind X.prog X.w) p xs) : ∃ ep, ∀ H, ObjOk X.prog X.w H h p (.ext (fN (gx X) p xs ep)) := by
  obtain ⟨o, es, ep, a, b, c, d, _⟩ := h3
  exact ⟨ep, fun H => ⟨⟨h1, h2, o, es, a, b, c, d⟩, ⟨o, a⟩, fun ha hb ⟨q1, q2, o', es', q3, q4, q5, q6⟩ st => ⟨q1, q2, o', es', st _ q3, q4, q5, q6⟩⟩⟩
theorem old_ne (I : Inv X pins σ H s) : (s.heap.objs.size == sysModules) = false := beq_eq_false_iff_ne.mpr (Nat.ne_of_gt I.big)
end
/-- what a dict is to the reader -/
inductive Dc (M : MS) : D → List (NK × D) → Prop
  | dic {kvs : List (NK × D)} : Dc M (.dic kvs) kvs
  | ref {p : Addr} {kvs : List (NK × D)} (k : Nat) (h : M[k]? = some (p, .dic kvs)) : Dc M (.ref p) kvs
section
variable {X : Cx} {N : List Str} {sc : Scope} {k : Nat} {b : Bool} {ρ : EnvD} {M M1 M2 M' : MS} {pos : Pos} {Q : D → MS → Prop} {E : DEnds}
theorem Dc.v {d : D} {kvs : List (NK × D)} (s : Dc M d kvs) {G : GX} {H : Hp} {v : V} (m : MSt G M H) (r : Rp G (hid (adr M) H) v d) : ∃ p xs ep, v = .ref p ∧ H p = some (.ext (fN G p xs ep)) ∧ (xs.map (·.1)).Nodup ∧ RpN G (hid (adr M) H) xs kvs := by
  cases s with
  | dic => cases r with | dic h1 h2 h3 => exact ⟨_, _, _, rfl, hid_ex _ _ h1, h2, h3⟩
  | ref k h =>
    cases r
    obtain ⟨o, h1, xs, ep, e, h2, h3⟩ := m.at h
    subst e
    exact ⟨_, xs, ep, rfl, h1, h2, h3⟩
theorem XOk.droom (h : XOk X N sc k b) : (nestedKind X.prog X.w).room X.A.in1 := by
  have := h.room.un
  show X.A.units + 1 + 8 < cLine
  omega
theorem XOk.droom2 (h : XOk X N sc k b) : (nestedKind X.prog X.w).room X.A.in1.in1 := by
  have := h.room.un
  show X.A.units + 1 + 1 + 8 < cLine
  omega
/-- a key: a tuple of plain things -/
theorem rp_ref {G : GX} {H : Hp} {v : V} {ks : List NK} (r : Rp G H v (keyD (.tup ks))) : ∃ a, v = .ref a := by
  simp only [keyD] at r
  cases r
  exact ⟨_, rfl⟩
def KOk (key : NK) : Prop := (∃ ks, key = .tup ks) ∧ key.depth ≤ 8
theorem KOk.v {key : NK} (h : KOk key) {G : GX} {H : Hp} {v : V} (r : Rp G H v (keyD key)) : ∃ a, v = .ref a := by
  obtain ⟨⟨ks, rfl⟩, _⟩ := h
  exact rp_ref r
theorem wo_inN (h : XOk X N sc k b) {d1 d2 : D} {key : NK} {kvs : List (NK × D)} (hk : KOk key) (e : d1 = keyD key) (s : Dc M d2 kvs) (q : Q (.bl (kvs.lookup key).isSome) M) : WO X (compareOp .In) d1 d2 M Q := fun H v1 v2 m r1 r2 Qv l => by
  unfold wpO
  intro pins st σ u v I ru rv
  subst e
  obtain ⟨a, rfl⟩ := hk.v r1
  obtain ⟨p, xs, ep, rfl, h1, h2, h3⟩ := s.v (G := gx X) m r2
  cases ru
  cases rv
  have h3' := h3.mono hid_ex
  obtain ⟨h4, h5, h6⟩ := dict_of I h1 h2 h3'
  refine wpAny_in_heap h.droom (key_of I (r1.mono hid_ex) hk.2) h4 h6 ⟨.bl _, H, I.tok _, rfl, ?_⟩
  rw [h3.isSome]
  exact l _ _ M H q m Fx.refl (.bl _)
theorem wo_ninN (h : XOk X N sc k b) {d1 d2 : D} {key : NK} {kvs : List (NK × D)} (hk : KOk key) (e : d1 = keyD key) (s : Dc M d2 kvs) (q : Q (.bl (!(kvs.lookup key).isSome)) M) : WO X (compareOp .NotIn) d1 d2 M Q := fun H v1 v2 m r1 r2 Qv l => by
  unfold wpO
  intro pins st σ u v I ru rv
  subst e
  obtain ⟨a, rfl⟩ := hk.v r1
  obtain ⟨p, xs, ep, rfl, h1, h2, h3⟩ := s.v (G := gx X) m r2
  cases ru
  cases rv
  obtain ⟨h4, h5, h6⟩ := dict_of I h1 h2 (h3.mono hid_ex)
  refine notIn_keyed h.droom (key_of I (r1.mono hid_ex) hk.2) h4 ⟨xs, h6, rfl⟩ ⟨.bl _, H, I.tok _, rfl, ?_⟩
  rw [valueAt_pairsH, Option.isSome_map, h3.isSome]
  exact l _ _ M H q m Fx.refl (.bl _)
/-! ### d[k] -/
def wpX (X : Cx) (x y : V) (H : Hp) (Q : VK) : Prop := ∀ (value slice : Expr) pins s σ v u, Inv X pins σ H s → RelV x v → RelV y u → subscripted slice false v u = operate [v, u] (getItem v u) → wpAny (model X.prog X.w) X.A (subscriptTail value slice v u) (EP X pins σ Q) X.xe s
theorem ix_wp : IxR X (wpX X) := fun value slice pins s σ H x y v u Q I rx ry h hs => h value slice pins s σ v u I rx ry hs
def WX (X : Cx) (d1 d2 : D) (M : MS) (Q : D → MS → Prop) : Prop := ∀ H v1 v2, MSt (gx X) M H → Rp (gx X) (hid (adr M) H) v1 d1 → Rp (gx X) (hid (adr M) H) v2 d2 → ∀ Qv, Lft (gx X) M H Q Qv → wpX X v1 v2 H Qv
theorem we_ixX {a c : Expr} (h : WE X a ρ M fun d1 M1 => WE X c ρ M1 fun d2 M2 => WX X d1 d2 M2 Q) (hs : PlainIx c := by exact fun _ _ => rfl) : WE X (.Subscript a c pos) ρ M Q := fun σ H at0 Qv l => by
  refine wp_pe (pe_ix ix_wp pe_wp pe_wp hs) (h σ H at0 _ fun v1 d1 M1 H1 q1 m1 f1 r1 => ?_)
  refine q1 σ H1 (at0.step m1 f1) _ fun v2 d2 M2 H2 q2 m2 f2 r2 => ?_
  exact q2 H2 v1 v2 m2 (r1.mono f2) r2 _ (l.go (Ex.trans f1 f2))
theorem wx_dic (h : XOk X N sc k b) {d1 d2 d : D} {key : NK} {kvs : List (NK × D)} (hk : KOk key) (e : d2 = keyD key) (s : Dc M d1 kvs) (hd : kvs.lookup key = some d) (q : Q d M) : WX X d1 d2 M Q := fun H v1 v2 m r1 r2 Qv l value slice pins st σ u v I ru rv hs => by
  subst e
  obtain ⟨a, rfl⟩ := hk.v r2
  obtain ⟨p, xs, ep, rfl, h1, h2, h3⟩ := s.v (G := gx X) m r1
  cases ru
  cases rv
  obtain ⟨h4, h5, h6⟩ := dict_of I h1 h2 (h3.mono hid_ex)
  have at_ := h3.at (k := key)
  rw [hd] at at_
  obtain ⟨a', u', v', h7, h8, h9⟩ := at_
  refine tail_any h6.typeIs slot_dict_getitem.lookup (wpAny_getItem_heap h.droom (key_of I (r2.mono hid_ex) hk.2) h6 h7 ?_) hs
  exact ⟨v', H, I.tok _, h8, l _ _ M H q m Fx.refl h9⟩
/-! ### d.get(k, x) -/
theorem rcv_dic {d : D} {kvs : List (NK × D)} (s : Dc M d kvs) : Rcv X "dict" d M := fun H v m r pins σ st u I ru => by
  obtain ⟨p, xs, ep, rfl, h1, h2, h3⟩ := s.v (G := gx X) m r
  cases ru
  obtain ⟨_, _, o, es, _, h4, h5, _⟩ := dict_of I h1 h2 (h3.mono hid_ex)
  refine ⟨⟨o, h4, h5.1⟩, fun c ec => ?_⟩
  cases ec
  exact ⟨o, h4, h5.2.1⟩
theorem wm_get (h : XOk X N sc k b) {d1 d2 d : D} {key : NK} {kvs : List (NK × D)} (hk : KOk key) (e : d2 = keyD key) (s : Dc M d1 kvs) (q : Q ((kvs.lookup key).getD d) M) : WM X "dict.get" d1 [d2, d] M Q := fun H v1 vs m r1 ra Qv l => by
  unfold wpM
  intro pins st σ u us I ru rv
  subst e
  cases ra with
  | cons r2 ra =>
    cases ra with
    | cons r ra =>
      cases ra
      obtain ⟨a, rfl⟩ := hk.v r2
      obtain ⟨p, xs, ep, rfl, h1, h2, h3⟩ := s.v (G := gx X) m r1
      cases ru
      obtain ⟨u1, u2, rfl, rx, ry⟩ := vals2 rv
      cases (show u1 = Value.ref a from rx)
      obtain ⟨h4, h5, h6⟩ := dict_of I h1 h2 (h3.mono hid_ex)
      refine call_meetsIn F.slot_dict_get h6.typeIs F.entry_dict_get (F.args_dict_get_3 _ _ _) (meetsH_dict_get_default _ p a h4 u2) ⟨h.droom, key, xs, key_of I (r2.mono hid_ex) hk.2, h6, ?_⟩
      have at_ := h3.at (k := key)
      cases hd : kvs.lookup key with
      | none =>
        rw [hd] at at_ q
        simp only at at_
        rw [at_]
        exact ⟨_, H, I.tok _, ry, l _ _ M H q m Fx.refl r⟩
      | some d' =>
        rw [hd] at at_ q
        obtain ⟨a', u', v', h7, h8, h9⟩ := at_
        rw [h7]
        exact ⟨v', H, I.tok _, h8, l _ _ M H q m Fx.refl h9⟩
/-! ### d[k] = x -/
theorem wst_dic (h : XOk X N sc k b) {p : Addr} {d2 d : D} {key : NK} {kvs : List (NK × D)} {Q : MS → Prop} (kk : Nat) (hM : M[kk]? = some (p, .dic kvs)) (hk : KOk key) (e : d2 = keyD key) (z : kvs.length < 16000000) (q : Q (M.set kk (p, .dic (putN kvs key d)))) : WSt X (.ref p) d2 d M Q := fun H v1 v2 v m r1 r2 r Qv l => by
  unfold wpSt
  intro pins st σ ou iu u I ro ri rv
  subst e
  obtain ⟨a, rfl⟩ := hk.v r2
  cases r1
  cases ro
  cases ri
  obtain ⟨o, h1, xs, ep, e, h2, h3⟩ := m.at hM
  subst e
  obtain ⟨h4, h5, h6⟩ := dict_of I h1 h2 (h3.mono hid_ex)
  have hl : xs.length < 16000000 := by rw [h3.len]; exact z
  refine wpAny_setItem_heap (hsz := h5) h.droom (key_of I (r2.mono hid_ex) hk.2) h6 fun h' hd hs => ?_
  have hl2 := storedH_length xs key a u
  obtain ⟨ep', ok⟩ := fN_ok (X := X) h4 (by rw [sizeLine_eq]; omega) hd
  have I' : Inv X pins σ (upd H p (.ext (fN (gx X) p (storedH xs key a u) ep'))) { st with heap := h', toks := st.toks + (nestedKind X.prog X.w).draws key } :=
    I.write (x := p) (e := p) (by rw [h1]; trivial) (.inl rfl) (fun b u hb q => hs.extBut b u hb q) (by obtain ⟨o, _, _, q, _⟩ := hd; exact ⟨o, q⟩) (ok _)
  exact ⟨_, I', l.put (.dic _) m hM ⟨_, _, rfl, storedH_nodup h2, h3.put r2 hk.2 rv r⟩ q⟩
/-! ### dict(pairs), d.update(pairs) -/
def prD (ps : List (NK × D)) : List D := ps.map fun p => .tup [keyD p.1, p.2]
theorem pairs_ent {pins : List (Addr × Obj)} {σ : L2.St} {H F : Hp} {s : Shared} (I : Inv X pins σ H s) (ex : Ex F H) : ∀ {ps : List (NK × D)} {vs : List V} {us : List Value}, RpA (gx X) F vs (prD ps) → Vals vs us → (∀ p ∈ ps, KOk p.1) →
    ∃ (Ts : List Addr) (xs : List Ent), us = Ts.map Value.ref ∧ RpN (gx X) F xs ps ∧ xs.length = Ts.length ∧ ∀ (j : Nat) (k : NK) (a : Addr) (u : Value), xs[j]? = some (k, a, u) → ∃ T, Ts[j]? = some T ∧ s.heap.IsTuple T #[.ref a, u]
  | [], vs, us, ra, rv, _ => by
    simp only [prD, List.map_nil] at ra
    cases ra
    cases rv
    exact ⟨[], [], rfl, .nil, rfl, fun _ _ _ _ e => by simp at e⟩
  | p :: ps, vs, us, ra, rv, hk => by
    simp only [prD, List.map_cons] at ra
    cases ra with
    | cons r ra =>
      cases rv with
      | cons ru rv =>
        obtain ⟨Ts, xs, e1, e2, e3, e4⟩ := pairs_ent I ex (ps := ps) ra rv fun q hq => hk q (List.mem_cons_of_mem _ hq)
        subst e1
        cases r with
        | @tup T ws _ hs rw' =>
          cases rw' with
          | cons r1 rw' =>
            cases rw' with
            | cons r2 rw' =>
              cases rw'
              have hp := hk p List.mem_cons_self
              obtain ⟨a, rfl⟩ := hp.v r1
              cases ru
              obtain ⟨its, rt, it, _⟩ := I.tuple (ex_t ex hs)
              obtain ⟨u1, u2, rfl, q1, q2⟩ := vals2 rt
              cases (show u1 = Value.ref a from q1)
              refine ⟨T :: Ts, (p.1, a, u2) :: xs, rfl, .cons r1 hp.2 q2 r2 e2, congrArg (· + 1) e3, fun j k' a' u' e => ?_⟩
              cases j with
              | zero =>
                simp at e
                obtain ⟨rfl, rfl, rfl⟩ := e
                exact ⟨T, rfl, it⟩
              | succ j =>
                obtain ⟨T', h1, h2⟩ := e4 j k' a' u' (by simpa using e)
                exact ⟨T', by simpa using h1, h2⟩
theorem pair_items {s : Shared} {Ts : List Addr} {xs : List Ent} (e3 : xs.length = Ts.length) (e4 : ∀ (j : Nat) (k : NK) (a : Addr) (u : Value), xs[j]? = some (k, a, u) → ∃ T, Ts[j]? = some T ∧ s.heap.IsTuple T #[.ref a, u]) :
    PairItems s.heap (Ts.map Value.ref).toArray (fun j => Ts.getD j 0) (xs.map fun x => (.ref x.2.1, x.2.2)) := by
  refine ⟨by simp [e3], fun j kv v hj => ?_⟩
  rw [List.getElem?_map] at hj
  cases e : xs[j]? with
  | none => rw [e] at hj; cases hj
  | some x =>
    rw [e] at hj
    simp only [Option.map_some, Option.some.injEq, Prod.mk.injEq] at hj
    obtain ⟨rfl, rfl⟩ := hj
    obtain ⟨T, h1, h2⟩ := e4 j x.1 x.2.1 x.2.2 e
    have e5 : Ts.getD j 0 = T := by rw [List.getD_eq_getElem?_getD, h1]; rfl
    exact ⟨by simp [h1, e5], by show PairAt s.heap (Ts.getD j 0) _ _; rw [e5]; exact .inl h2⟩
theorem pairs_have {xs : List Ent} : PairsHaveH (nestedKind X.prog X.w) (xs.map fun x => ((.ref x.2.1 : Value), x.2.2)).length (PairRel (xs.map fun x => ((.ref x.2.1 : Value), x.2.2))) xs := by
  refine ⟨by simp, fun i key v e => ?_⟩
  have e : (xs.map fun x => ((.ref x.2.1 : Value), x.2.2))[i]? = some (key, v) := e
  rw [List.getElem?_map] at e
  cases q : xs[i]? with
  | none => rw [q] at e; cases e
  | some x =>
    rw [q] at e
    simp only [Option.map_some, Option.some.injEq, Prod.mk.injEq] at e
    obtain ⟨rfl, rfl⟩ := e
    exact ⟨x.1, x.2.1, rfl, rfl⟩
/-- a list or a tuple that dict() reads -/
inductive SqP (M : MS) : D → List D → Prop
  | l {d : D} {ds : List D} (h : SqO M d ds) : SqP M d ds
  | t {ds : List D} : SqP M (.tupN ds) ds
theorem new_dic {H : Hp} {Qv : VK} {kvs : List (NK × D)} {xs : List Ent} {ep : Nat} {p : Addr} (l : Lft (gx X) M H Q Qv) (m : MSt (gx X) M H) (nd : (xs.map (·.1)).Nodup) (r : RpN (gx X) (hid (adr M) H) xs kvs) (q : ∀ p, Q (.ref p) ((p, .dic kvs) :: M)) (hp : H p = none) : Qv (.ref p) (upd H p (.ext (fN (gx X) p xs ep))) :=
  l _ _ _ _ (q p) (m.new hp ⟨xs, ep, rfl, nd, r⟩) (hid_new hp) (.ref p)
theorem wc_dict (h : XOk X N sc k b) {d : D} {ps : List (NK × D)} (s : SqP M d (prD ps)) (hk : ∀ p ∈ ps, KOk p.1) (z : ps.length < 10000000) (q : ∀ p, Q (.ref p) ((p, .dic (putsN [] ps)) :: M)) : WC X (.type "dict") [d] M Q := fun H vs m ra Qv l => by
  unfold wpC
  intro pins st σ us I rv
  cases ra with
  | cons r ra =>
    cases ra
    obtain ⟨u, rfl, ru⟩ := vals1 rv
    have fin : ∀ (a : Addr) (Ts : List Addr) (xs : List Ent), RpN (gx X) (hid (adr M) H) xs ps → ∀ (h' : Heap) (tk : Nat), h'.DictOfH (nestedKind X.prog X.w) st.heap.objs.size (storedAllH [] xs) → (∀ b o, b ∉ ([] : List Addr) → st.heap.get? b = some o → h'.get? b = some o) → EP X pins σ Qv (.ref st.heap.objs.size) { st with heap := h', toks := tk } := fun a Ts xs e2 h' tk hd hk' => by
      have hl : (storedAllH [] xs).length ≤ sizeLine := by
        have := storedAllH_len (ps := xs) (xs := [])
        rw [e2.len] at this
        rw [sizeLine_eq]
        simp at this
        omega
      obtain ⟨ep', ok⟩ := fN_ok (X := X) (old_ne I) hl hd
      exact ⟨.ref st.heap.objs.size, _, I.laid (t' := tk) (fun b u e => hk' b u (fun z => nomatch z) e) (Nat.le_refl _) (ok _), rfl, new_dic l m (storedAllH_nodup (by simp)) (RpN.puts .nil e2) q I.fresh⟩
    have stay : ∀ (xs : List Ent), RpN (gx X) (hid (adr M) H) xs ps → KeysStay (nestedKind X.prog X.w) st.heap st.heap.objs.size [] xs := fun xs e2 h' hk' x hx =>
      nestedKind_stays.stays (fun b o vs n e _ => hk' b o (Nat.ne_of_lt (Heap.lt_size e)) (fun z => nomatch z) e) (keys_of I (e2.mono hid_ex) x hx)
    cases s with
    | l s =>
      obtain ⟨p, vs, rfl, h1, ra⟩ := s.v m r
      cases ru
      obtain ⟨z2, its, n, rv2, hl, e⟩ := I.lstM h1
      obtain ⟨Ts, xs, rfl, e2, e3, e4⟩ := pairs_ent I hid_ex ra rv2 hk
      refine call_dict_pairsH (PairArg.list p (Ts.map Value.ref).toArray (fun j => Ts.getD j 0) (xs.map fun x => (.ref x.2.1, x.2.2))) (I.ok.hd h.calm) h.droom2 ⟨⟨_, n, e, rfl, rfl, rfl⟩, pair_items e3 e4⟩ pairs_have (stay xs e2) (by rw [List.length_map, e2.len, sizeLine_eq]; omega) (fin p Ts xs e2)
    | t =>
      cases r with
      | @tupN p vs _ o h1 h0 ra =>
        cases ru
        obtain ⟨e, _, its, rv2, o', h2, h3, n, h4⟩ := (show ObjOk X.prog X.w H st.heap p (.frz o (.tup vs)) from I.hok p _ (hid_ex _ _ h1))
        rw [e] at h2
        cases h2
        obtain ⟨Ts, xs, rfl, e2, e3, e4⟩ := pairs_ent I hid_ex ra rv2 hk
        refine call_dict_pairsH (PairArg.tuple p (Ts.map Value.ref).toArray (fun j => Ts.getD j 0) (xs.map fun x => (.ref x.2.1, x.2.2))) (I.ok.hd h.calm) h.droom2 ⟨⟨_, n, e, h3, h0, h4⟩, pair_items e3 e4⟩ pairs_have (stay xs e2) (by rw [List.length_map, e2.len, sizeLine_eq]; omega) (fin p Ts xs e2)
theorem wm_update (h : XOk X N sc k b) {p : Addr} {d : D} {kvs ps : List (NK × D)} (kk : Nat) (hM : M[kk]? = some (p, .dic kvs)) (s : SqO M d (prD ps)) (hk : ∀ p ∈ ps, KOk p.1) (z : kvs.length + ps.length < 10000000) (q : Q .non (M.set kk (p, .dic (putsN kvs ps)))) : WM X "dict.update" (.ref p) [d] M Q := fun H v vs m r0 ra Qv l => by
  unfold wpM
  intro pins st σ u us I ru rv
  cases r0
  cases ru
  cases ra with
  | cons r ra =>
    cases ra
    obtain ⟨u, rfl, ru⟩ := vals1 rv
    obtain ⟨o, h1, ys, ep0, e, h2, h3⟩ := m.at hM
    subst e
    obtain ⟨h4, h5, h6⟩ := dict_of I h1 h2 (h3.mono hid_ex)
    obtain ⟨p', vs, rfl, h7, ra⟩ := s.v m r
    cases ru
    obtain ⟨z2, its, n, rv2, hl, e⟩ := I.lstM h7
    obtain ⟨Ts, xs, rfl, e2, e3, e4⟩ := pairs_ent I hid_ex ra rv2 hk
    obtain ⟨od, es, ep, h8, h9, h10, _⟩ := h6
    refine call_update_pairsH (PairArg.list p' (Ts.map Value.ref).toArray (fun j => Ts.getD j 0) (xs.map fun x => (.ref x.2.1, x.2.2))) (I.ok.hd h.calm) h.droom ⟨⟨_, n, e, rfl, rfl, rfl⟩, pair_items e3 e4⟩ (fun hm => ?_) pairs_have (fun h' hk' x hx => ?_) (dict_of I h1 h2 (h3.mono hid_ex)).2.2 (by rw [List.length_map, e2.len, h3.len, sizeLine_eq]; omega) fun h' tk hd hk' => ?_
    · rcases List.mem_cons.mp hm with e5 | hm
      · subst e5
        rw [h7] at h1
        cases h1
      · obtain ⟨j, hj, ej⟩ := List.mem_map.mp hm
        have hj := List.mem_range.mp hj
        rw [List.length_map] at hj
        obtain ⟨T, q1, ot, q2, q3, _⟩ := e4 j xs[j].1 xs[j].2.1 xs[j].2.2 (List.getElem?_eq_getElem hj)
        have e5 : Ts.getD j 0 = T := by rw [List.getD_eq_getElem?_getD, q1]; rfl
        have ej : Ts.getD j 0 = p := ej
        rw [e5] at ej
        subst ej
        rw [h8] at q2
        cases q2
        rw [h9.1] at q3
        have q4 := Value.type.inj q3
        exact absurd q4 (by decide)
    · refine nestedKind_stays.but (d := p) ⟨od, es, ep, h8, h10⟩ h' hk' _ _ ?_
      rcases List.mem_append.mp hx with hx | hx
      · exact keys_of I (h3.mono hid_ex) x hx
      · exact keys_of I (e2.mono hid_ex) x hx
    · have hl : (storedAllH ys xs).length ≤ sizeLine := by
        have := storedAllH_len (ps := xs) (xs := ys)
        rw [e2.len, h3.len] at this
        rw [sizeLine_eq]
        omega
      obtain ⟨ep', ok⟩ := fN_ok (X := X) h4 hl hd
      have I' : Inv X pins σ (upd H p (.ext (fN (gx X) p (storedAllH ys xs) ep'))) { st with heap := h', toks := tk } :=
        I.write (x := p) (e := p) (by rw [h1]; trivial) (.inl rfl) (fun b u hb q => hk' b u hb (fun z => nomatch z) q) (by obtain ⟨o, _, _, q, _⟩ := hd; exact ⟨o, q⟩) (ok _)
      exact ⟨.non, _, I', rfl, l.put (.dic _) m hM ⟨_, _, rfl, storedAllH_nodup h2, h3.puts e2⟩ q .non⟩
end
end DL

set_option maxHeartbeats 4000000
/-! DL: dict comprehensions whose keys are tuples. -/
namespace DL
open PySem PySem.Spec PyProof.Rows L2 Evl

section
variable {X : Cx}
/-- a block of a comprehension, by where it begins -/
abbrev Bk (X : Cx) (scope : Scope) (t : Shared) (F : Hp) (C : Addr) (cl : List (Str × Addr)) (fp : List Addr) : Cx := X.blk t F scope (compEnvC scope cl C X.env) fp
def wpDS (X' : Cx) (P : Addr) (y z : V) (F : Hp) (Nx : Hp → Prop) : Prop := ∀ pins t σ u r, Inv X' pins σ F t → RelV y u → RelV z r → ∀ E, wpAny (model X'.prog X'.w) X'.A (dictSet P u r) (fun _ t' => ∃ F', Inv X' pins σ F' t' ∧ Nx F') E t
/-- what the dict's own object is at first -/
abbrev e0 (X : Cx) (P : Addr) : HO := .ext (fN (gx X) P [] 0)
def tDx (X : Cx) (scope : Scope) (wi : TI) (g : TG) (tt : TT) (tk tv : TE) (vs : List Nat) : TE := fun σ F Q => wi σ F fun J F1 => ∀ P, F1 P = none → ∃ W : Nat → Nat → Hp → Prop, (∃ m, W 0 m (upd F1 P (e0 X P))) ∧ ∀ i m F2, W i m F2 →
  (J.stop i F2 ∧ Q (.ref P) F2) ∨ (J.go i F2 ∧ ∃ Nx : Hp → Prop, (∀ F', Nx F' → ∃ m', m' < m ∧ W (i + 1) m' F') ∧ ∀ x F3, J.yld i F2 x F3 → g x (wipe σ vs) F3 fun σ2 F4 => wipe σ2 vs = wipe σ vs ∧ tt σ2 F4 fun c F5 =>
    if c = true then tk σ2 F5 fun y F6 => tv σ2 F6 fun z F7 => (∀ t F0 C cl fp, wpDS (Bk X scope t F0 C cl fp) P y z F7 Nx) else Nx F5)
theorem empty_ok {pins : List (Addr × Obj)} {σ : L2.St} {F : Hp} {t : Shared} (I : Inv X pins σ F t) : Inv X pins σ (upd F t.heap.objs.size (e0 X t.heap.objs.size)) { t with heap := t.heap.push { cls := .type "dict", data := .dict #[] } } := by
  have ho : (t.heap.push { cls := .type "dict", data := .dict #[] }).get? t.heap.objs.size = some { cls := .type "dict", data := .dict #[] } := Heap.get?_push_size _ rfl
  exact I.laid (t' := t.toks) (fun b o e => Heap.get?_push_of_some _ e) (Nat.le_refl _) ⟨⟨old_ne I, Nat.zero_le _, _, #[], ho, ⟨rfl, rfl, rfl⟩, rfl, rfl⟩, ⟨_, ho⟩, fun ha hb ⟨q1, q2, o', es', q3, q4, q5, q6⟩ st => ⟨q1, q2, o', es', st _ q3, q4, q5, q6⟩⟩
theorem dx_core {pins : List (Addr × Obj)} {t0 : Shared} {σ : L2.St} {F : Hp} {Q : VK} {kx vx tg iter : Expr} {ifs : List Expr} {scope : Scope} {own : List (Str × Nat)} {pos pos' : Pos} {wi : TI} {g : TG} {tt : TT} {tk tv : TE} {Qf : Value → Shared → Prop}
    (hc : X.calm = true) (hN : X.N.Nodup) (I : Inv X pins σ F t0) (hi : PI X tg iter wi) (ok : BlkOk X.N X.env.scope scope own)
    (hg : ∀ t F C cl fp, PG (Bk X scope t F C cl fp) tg g) (ht : ∀ t F C cl fp, PTs (Bk X scope t F C cl fp) ifs tt) (hk : ∀ t F C cl fp, PE (Bk X scope t F C cl fp) kx tk) (he : ∀ t F C cl fp, PE (Bk X scope t F C cl fp) vx tv)
    (hs : ∀ x, foldedSetIterable iter X.env x = pure x) (h : tDx X scope wi g tt tk tv (own.map (·.2)) σ F Q)
    (fin : ∀ P C t' m F', Inv X pins σ F' t' → Q (.ref P) F' → t'.heap.Ns C m → FpOk X pins F' C → compPost (model X.prog X.w) X.A X.xe none Qf (.ref P) C (.ok .next) t') :
    wpAny (model X.prog X.w) X.A (comprehension (.DictComp kx vx [⟨tg, iter, ifs, 0⟩] scope pos) scope X.env pos' newDict false (eval iter X.env) none) Qf X.xe t0 := by
  have free : ∀ y ∈ scope.names, y.2 = .free → ∃ c, X.env.cells.lookup y.1 = some c := fun y hy e => (ok.free y hy e).elim (fun k => I.ok.has _ (.inl k)) fun k => I.ok.has _ (.inr k)
  refine wpAny_comprehension_free (use := none) rfl hs (closure_ok free) ok.kind (fun y hy e => by rw [ok.uniq y hy, e]) (thn (hi.run pins t0 σ F _ I h) fun xv t1 hx => thn hx fun itv t2 h2 => ?_)
  obtain ⟨it, fp, tn, J, F2, e, I2, T, st2, f2, q⟩ := h2
  subst e
  refine wpAny_newObj_type (newEnv_comp ?_)
  have fresh : F2 t2.heap.objs.size = none := I2.hok.fresh (Nat.le_refl _)
  obtain ⟨W, ⟨m0, w0⟩, turn⟩ := q _ fresh
  have I3 := empty_ok I2
  generalize hP : t2.heap.objs.size = P at *
  generalize hF3 : upd F2 P (e0 X P) = F3 at I3 w0
  have below : ∀ b ∈ fp, b < P := fun b hb => by
    obtain ⟨o, e, _⟩ := T.obj _ _ st2 b hb
    rw [← hP]
    exact Heap.lt_size e
  have f3 : ∀ b ∈ fp, FpOk X pins F3 b ∧ b < (t2.heap.push { cls := .type "dict", data := .dict #[] }).objs.size := fun b hb => by
    refine ⟨⟨?_, (f2 b hb).2⟩, by rw [Heap.size_push, hP]; exact Nat.lt_succ_of_lt (below b hb)⟩
    rw [← hF3, upd_ne (Nat.ne_of_lt (below b hb))]
    exact (f2 b hb).1
  have st3 : tn 0 (t2.heap.push { cls := .type "dict", data := .dict #[] }) := T.keep _ _ _ st2 fun b _ o e => Heap.get?_push_of_some _ e
  generalize ht3 : ({ t2 with heap := t2.heap.push { cls := .type "dict", data := .dict #[] } } : Shared) = t3 at I3
  have hh3 : t2.heap.push { cls := .type "dict", data := .dict #[] } = t3.heap := by rw [← ht3]
  rw [hh3] at f3 st3
  have I4 := block_start I3 ok hN f3
  have pg := hg t3 F3 t3.heap.objs.size (cellsFrom (t3.heap.objs.size + 1) scope.names (cloFrom X.env.cells scope.names [])) fp
  have pt := ht t3 F3 t3.heap.objs.size (cellsFrom (t3.heap.objs.size + 1) scope.names (cloFrom X.env.cells scope.names [])) fp
  have pk := hk t3 F3 t3.heap.objs.size (cellsFrom (t3.heap.objs.size + 1) scope.names (cloFrom X.env.cells scope.names [])) fp
  have pv := he t3 F3 t3.heap.objs.size (cellsFrom (t3.heap.objs.size + 1) scope.names (cloFrom X.env.cells scope.names [])) fp
  show codeAny _ _ (.compStart _ 0 (.ref it) (.ref P) (compEnvC scope (cellsFrom (t3.heap.objs.size + 1) scope.names (cloFrom X.env.cells scope.names [])) t3.heap.objs.size X.env)) (compPost (model X.prog X.w) X.A X.xe none Qf (.ref P) t3.heap.objs.size) { t3 with heap := pushCells (t3.heap.push { cls := .type "dict", data := .dict #[] }) scope.names }
  have off : ∀ b ∈ fp, F3 b = none := fun b hb => (f3 b hb).1.1
  dsimp only [Bk] at pg pt pk pv
  generalize hce : compEnvC scope (cellsFrom (t3.heap.objs.size + 1) scope.names (cloFrom X.env.cells scope.names [])) t3.heap.objs.size X.env = ce at I4 pg pt pk pv ⊢
  have eL : ce.locals = t3.heap.objs.size := by subst hce; rfl
  generalize ht4 : ({ t3 with heap := pushCells (t3.heap.push { cls := .type "dict", data := .dict #[] }) scope.names } : Shared) = t4 at I4 ⊢
  have st4 : tn 0 t4.heap := T.keep _ _ _ st3 fun b _ o e => by rw [← ht4]; exact pushCells_keeps _ _ _ _ (Heap.get?_push_of_some _ e)
  have clear : ∀ {ρ : L2.St} {F' : Hp} {t' : Shared}, Inv (X.blk t3 F3 scope ce fp) [] ρ F' t' → (∀ b ∈ fp, F' b = none) → ∀ b ∈ fp, FpOk (X.blk t3 F3 scope ce fp) [] F' b := fun {ρ F' t'} I' n b hb =>
    ⟨n b hb, (I'.ok.exf b hb).1, I'.ok.exfs b hb, .inl hb, fun x c e => (I'.ok.exf b hb).2 x c e, fun p hp => absurd (show p ∈ ([] : List (Addr × Obj)) ++ [] from hp) (by simp)⟩
  have main : codeAny (model X.prog X.w) X.A (.compLoop (.DictComp kx vx [⟨tg, iter, ifs, 0⟩] scope pos) 0 (.ref it) (.ref P) ce) (compPost (model X.prog X.w) X.A X.xe none Qf (.ref P) t3.heap.objs.size) t4 := by
    refine compLoop_anyD (fun n t' => ∃ i F', Inv (X.blk t3 F3 scope ce fp) [] (wipe σ (own.map (·.2))) F' t' ∧ tn i t'.heap ∧ (∀ b ∈ fp, F' b = none) ∧ W i n F') ?_ m0 ⟨0, F3, I4, st4, off, w0⟩
    rintro n t5 ⟨i, F5, I5, st5, n5, w5⟩
    rcases turn i n F5 w5 with ⟨stop, fq⟩ | ⟨go, Nx, hNx, step⟩
    · refine thnF (T.done (X.blk t3 F3 scope ce fp) rfl rfl rfl hc i [] t5 _ F5 (fun _ _ => False) I5 (clear I5 n5) st5 stop) fun r t6 ⟨hr, I6⟩ => ?_
      subst hr
      have I7 : Inv X pins σ F5 t6 := I3.call' (ch := fp) I6.os I6.base I6.hok I6.bare fun b hb => ⟨(f3 b hb).1.2.2.2.1, (f3 b hb).1.2.1, (f3 b hb).1.2.2.2.2.1, (f3 b hb).1.2.2.2.2.2⟩
      have nC : F5 t3.heap.objs.size = none := by
        have z : F5 ce.locals = none := I6.free
        rw [eL] at z
        exact z
      obtain ⟨m, hn, _⟩ := I6.loc
      have hn' : t6.heap.Ns ce.locals m := hn
      rw [eL] at hn'
      exact fin P t3.heap.objs.size t6 m F5 I7 fq hn' (I3.fpOk (Nat.le_refl _) nC)
    · refine thnF (T.item (X.blk t3 F3 scope ce fp) rfl rfl rfl hc i [] t5 _ F5 (fun _ _ => False) I5 (clear I5 n5) st5 go) fun r t6 ⟨u, hr, h6⟩ => ?_
      subst hr
      refine thnF h6 fun _ t7 ⟨x, F7, I7, r7, y7, st7, n7⟩ => ?_
      have I7' := I7.pinned (clear I7 n7) (T.obj _ _ st7)
      refine thnF (pg.run _ t7 _ F7 x u _ I7' r7 (step x F7 y7)) fun _ t8 ⟨σ8, F8, I8, hw8, q8⟩ => ?_
      refine thnF (pt.run _ t8 σ8 F8 _ I8 q8) fun c t9 ⟨F9, I9, q9⟩ => ?_
      have close : ∀ {t' : Shared} {F' : Hp}, Inv (X.blk t3 F3 scope ce fp) ([] ++ pinsAt fp t7.heap) σ8 F' t' → Nx F' → ∃ m, m < n ∧ ∃ i F', Inv (X.blk t3 F3 scope ce fp) [] (wipe σ (own.map (·.2))) F' t' ∧ tn i t'.heap ∧ (∀ b ∈ fp, F' b = none) ∧ W i m F' := fun {t' F'} I' nx => by
        obtain ⟨m', lt, w'⟩ := hNx F' nx
        have pin' : ∀ b ∈ fp, ∀ o, t7.heap.get? b = some o → t'.heap.get? b = some o ∧ F' b = none := fun b hb o e =>
          ⟨(I'.pin (b, o) (List.mem_append_right _ (List.mem_append_right _ (mem_pinsAt hb e)))).1, (I'.pin (b, o) (List.mem_append_right _ (List.mem_append_right _ (mem_pinsAt hb e)))).2.1⟩
        refine ⟨m', lt, i + 1, F', (I'.unpinned (pins := [])).weak (by rw [← hw8, wipe_length]) (fun j v e => ?_), T.keep _ _ _ st7 fun b hb o e => (pin' b hb o e).1, fun b hb => ?_, w'⟩
        · rw [← hw8] at e
          exact (wipe_some e).1
        · obtain ⟨o, e, _⟩ := T.obj _ _ st7 b hb
          exact (pin' b hb o e).2
      cases c with
      | false =>
        simp only [Bool.false_eq_true, if_false] at q9 ⊢
        exact close I9 q9
      | true =>
        simp only [if_true] at q9 ⊢
        refine thnF (pk.run _ t9 σ8 F9 _ I9 q9) fun zk t10 ⟨yk, F10, I10, r10, q10⟩ => ?_
        refine thnF (pv.run _ t10 σ8 F10 _ I10 q10) fun zv t11 ⟨yv, F11, I11, r11, q11⟩ => ?_
        have q12 := q11 t3 F3 t3.heap.objs.size (cellsFrom (t3.heap.objs.size + 1) scope.names (cloFrom X.env.cells scope.names [])) fp
        dsimp only [Bk] at q12
        rw [hce] at q12
        exact thnF (q12 _ t11 σ8 zk zv I11 r10 r11 (fun _ _ => False)) fun _ t12 ⟨F12, I12, n12⟩ => close I12 n12
  exact codeAny_compStart_dict main (T.self X.A 0 _ _ _ st4 main)
theorem pe_dx {kx vx tg iter : Expr} {ifs : List Expr} {scope : Scope} {own : List (Str × Nat)} {pos : Pos} {wi : TI} {g : TG} {tt : TT} {tk tv : TE} (hc : X.calm = true) (hN : X.N.Nodup) (hi : PI X tg iter wi) (ok : BlkOk X.N X.env.scope scope own)
    (hg : ∀ t F C cl fp, PG (Bk X scope t F C cl fp) tg g) (ht : ∀ t F C cl fp, PTs (Bk X scope t F C cl fp) ifs tt) (hk : ∀ t F C cl fp, PE (Bk X scope t F C cl fp) kx tk) (he : ∀ t F C cl fp, PE (Bk X scope t F C cl fp) vx tv)
    (hs : ∀ x, foldedSetIterable iter X.env x = pure x := by intro _; rfl) : PE X (.DictComp kx vx [⟨tg, iter, ifs, 0⟩] scope pos) (tDx X scope wi g tt tk tv (own.map (·.2))) := by
  refine ⟨fun pins t σ F Q I h => ?_⟩
  rw [arm_eval_DictComp]
  refine dx_core hc hN I hi ok hg ht hk he hs h fun P C t' m F' I' q hn f => ⟨m, hn, fun h'' sb => ?_⟩
  obtain ⟨f0, f1, f2, f3, f4, f5⟩ := f
  exact ⟨.ref P, F', I'.turned (t' := t'.toks) (fun b o hb e => (sb.2 b hb).trans e) f0 f1 f3 f4 f5, rfl, q⟩
end
section
variable {X : Cx} {N : List Str} {sc : Scope} {k : Nat} {b : Bool} {ρ : EnvD} {M M1 M2 M' : MS} {pos : Pos} {Q : D → MS → Prop} {E : DEnds}
theorem putN_len {kvs : List (NK × D)} {key : NK} {d : D} : (putN kvs key d).length ≤ kvs.length + 1 := by
  unfold putN
  split <;> simp
theorem putsN_len : ∀ {ps kvs : List (NK × D)}, (putsN kvs ps).length ≤ kvs.length + ps.length
  | [], _ => Nat.le_refl _
  | p :: ps, kvs => by
    have h1 := putsN_len (ps := ps) (kvs := putN kvs p.1 p.2)
    have h2 := putN_len (kvs := kvs) (key := p.1) (d := p.2)
    have h3 : putsN kvs (p :: ps) = putsN (putN kvs p.1 p.2) ps := rfl
    rw [h3, List.length_cons]
    omega
/-- a dict comprehension of pairs: the key a tuple -/
theorem wo_dx (h : XOk X N sc k b) {PT : Cx → Prop} {tg iter kx vx : Expr} {scope : Scope} {own : List (Str × Nat)} {g : TG} {sd : EnvD → D → Option EnvD} (T : TgOk X scope tg (own.map (·.2)) g sd) (hb : blkC N sc scope own = true)
    (hT : ∀ X' : Cx, X'.prog = X.prog → X'.w = X.w → X'.K = X.K → X'.mg = X.mg → X'.base = X.base → PT X') (f : D → NK × D)
    (hi : WI X tg iter ρ M fun items Gd M1 => (∀ m, Gd (m :: M1)) ∧ items.length ≤ 10000000 ∧
      (∀ d, d ∈ items → KOk (f d).1 ∧ ∃ ρ2, sd (wipeD ρ (own.map (·.2))) d = some ρ2 ∧ ∀ X', Blk X N sc scope k PT X' → ∀ m, DE X' kx ρ2 (m :: M1) (keyD (f d).1) (m :: M1) ∧ DE X' vx ρ2 (m :: M1) (f d).2 (m :: M1)) ∧
      ∀ p, Q (.ref p) ((p, .dic (putsN [] (items.map f))) :: M1)) (hs : ∀ x, foldedSetIterable iter X.env x = pure x := by intro _; rfl) : WE X (.DictComp kx vx [⟨tg, iter, [], 0⟩] scope pos) ρ M Q := fun σ H a Qv l => by
  have hbk : BlkOk X.N X.env.scope scope own := blk_of h hb
  refine wp_pe (pe_dx (tk := fun σ H Q => ∀ s H0 C cl fp, wpE (Bk X scope s H0 C cl fp) kx σ H Q) (tv := fun σ H Q => ∀ s H0 C cl fp, wpE (Bk X scope s H0 C cl fp) vx σ H Q) (tt := fun σ H Q => Q true H)
    h.calm (by rw [h.n]; exact h.nd) pi_wp hbk T.pg (fun s H C cl fp => pts_nil) (fun s H C cl fp => ⟨fun pins s' σ H Q I q => pe_wp.run pins s' σ H Q I (q s _ C cl fp)⟩) (fun s H C cl fp => ⟨fun pins s' σ H Q I q => pe_wp.run pins s' σ H Q I (q s _ C cl fp)⟩) hs) ?_
  refine hi σ H a _ fun J H1 items Gd M1 ⟨gd, z, turn, q⟩ m1 f1 ok P hP => ?_
  have blk : ∀ s H0 C cl fp, Blk X N sc scope k PT (Bk X scope s H0 C cl fp) := fun s H0 C cl fp => by
    refine ⟨⟨h.n, h.nd, (blkOk_by hb).kind, h.calm, h.room, (fun e => by cases e), PassesOwn.never, ?_⟩, hT (Bk X scope s H0 C cl fp) rfl rfl rfl rfl rfl, rfl⟩
    show relS scope X.env.scope = _
    rw [h.scp]
  let acc := fun i : Nat => putsN [] ((items.take i).map f)
  refine ⟨fun i n H' => n = items.length - i ∧ i ≤ items.length ∧ MSt (gx X) ((P, .dic (acc i)) :: M1) H' ∧ Fx M1 H1 ((P, .dic (acc i)) :: M1) H', ⟨_, rfl, Nat.zero_le _, m1.new hP ⟨[], 0, rfl, by simp, .nil⟩, hid_new hP⟩, ?_⟩
  rintro i n H' ⟨rfl, hle, m', f'⟩
  by_cases hlt : i < items.length
  · have e : items[i]? = some items[i] := List.getElem?_eq_getElem hlt
    refine .inr ⟨ok.go i _ H' _ f' m' (gd _) e, fun H3 => MSt (gx X) ((P, .dic (acc (i + 1))) :: M1) H3 ∧ Fx M1 H1 ((P, .dic (acc (i + 1))) :: M1) H3, fun H3 ⟨m3, f3⟩ => ⟨items.length - (i + 1), by omega, rfl, hlt, m3, f3⟩, fun x H2 y => ?_⟩
    obtain ⟨ex, rx⟩ := ok.yl i _ H' x H2 _ f' m' (gd _) e y
    obtain ⟨hk, ρ2, es, ev⟩ := turn _ (List.getElem_mem hlt)
    have m2 := m'.ex ex
    have f2 : Fx M1 H1 ((P, .dic (acc i)) :: M1) H2 := Ex.trans f' (hid_mono ex)
    have ea : acc (i + 1) = putN (acc i) (f items[i]).1 (f items[i]).2 := by
      show putsN [] ((items.take (i + 1)).map f) = _
      rw [List.take_succ, e, List.map_append]
      simp [putsN, acc]
    refine T.rd ρ ρ2 _ σ H2 x _ _ (at_wipe (a.step m2 (Ex.trans f1 f2))) rx es fun σ2 ew a2 => ⟨ew, ?_⟩
    show (if true = true then _ else _)
    rw [if_pos rfl]
    intro s H0 C cl fp
    have B := blk s H0 C cl fp
    refine (ev _ B (P, .dic (acc i))).1 σ2 H2 (by rw [B.2.2]; exact a2) _ fun yk dk M3 H3 ⟨e3, e4⟩ m3 f3 r3 => ?_
    subst e3 e4
    rw [B.2.2] at m3 r3
    intro s2 H02 C2 cl2 fp2
    have B2 := blk s2 H02 C2 cl2 fp2
    refine (ev _ B2 (P, .dic (acc i))).2 σ2 H3 (by rw [B2.2.2]; exact a2.step m3 f3) _ fun yv dv M4 H4 ⟨e4, e5⟩ m4 f4 r4 => ?_
    subst e4 e5
    rw [B2.2.2] at m4 r4
    intro s3 H03 C3 cl3 fp3
    have B3 := blk s3 H03 C3 cl3 fp3
    intro pins t σ5 u r I ru rr E
    have r3' := r3.mono f4
    obtain ⟨ka, rfl⟩ := hk.v r3'
    cases (show u = Value.ref ka from ru)
    obtain ⟨o, h4, xs, ep, eo, hn, ra⟩ := m4.at (k := 0) rfl
    subst eo
    have hw : (Bk X scope s3 H03 C3 cl3 fp3).w = X.w := rfl
    have hp : (Bk X scope s3 H03 C3 cl3 fp3).prog = X.prog := rfl
    have dd := dict_of I h4 hn (by rw [B3.2.2]; exact ra.mono hid_ex)
    have kk := key_of I (by rw [B3.2.2]; exact r3'.mono hid_ex) hk.2
    obtain ⟨d1, d2, d3⟩ := dd
    have hl : xs.length < 16000000 := by
      rw [ra.len]
      have := putsN_len (ps := (items.take i).map f) (kvs := [])
      have h3 : (items.take i).length ≤ items.length := by rw [List.length_take]; exact Nat.min_le_right _ _
      simp only [List.length_nil, List.length_map] at this
      show (putsN [] ((items.take i).map f)).length < _
      omega
    have hroom : (nestedKind X.prog X.w).room X.A := by
      have := h.room.un
      show X.A.units + 8 < cLine
      omega
    refine wpAny_dictSet_heap (hsz := d2) hroom kk d3 fun h' hd hs => ?_
    have hl2 := storedH_length xs (f items[i]).1 ka r
    obtain ⟨ep', ok'⟩ := fN_ok (X := X) d1 (by rw [sizeLine_eq]; omega) hd
    have I' : Inv (Bk X scope s3 H03 C3 cl3 fp3) pins σ5 (upd H4 P (.ext (fN (gx X) P (storedH xs (f items[i]).1 ka r) ep'))) { t with heap := h', toks := t.toks + (nestedKind X.prog X.w).draws (f items[i]).1 } :=
      I.write (x := P) (e := P) (by rw [h4]; trivial) (.inl rfl) (fun b u hb q => hs.extBut b u hb q) (by obtain ⟨o, _, _, q, _⟩ := hd; exact ⟨o, q⟩) (ok' _)
    have c := m4.upd (k := 0) (mo' := .dic (acc (i + 1))) (o := .ext (fN (gx X) P (storedH xs (f items[i]).1 ka r) ep')) rfl ⟨_, _, rfl, storedH_nodup hn, by rw [ea]; exact ra.put r3' hk.2 rr r4⟩
    refine ⟨_, I', c, Ex.trans f2 (Ex.trans f3 (Ex.trans f4 ?_))⟩
    show Ex (hid (P :: adr M1) H4) (hid (P :: adr M1) (upd H4 P _))
    rw [hid_upd (List.mem_cons_self)]
    exact Ex.refl _
  · have e : i = items.length := by omega
    subst e
    refine .inl ⟨ok.st _ H' f' m' (gd _), ?_⟩
    have e2 : acc items.length = putsN [] (items.map f) := by show putsN [] ((items.take items.length).map f) = _; rw [List.take_length]
    rw [e2] at m' f'
    exact l _ _ _ _ (q P) m' (Ex.trans f1 f') (.ref P)
end
end DL

set_option maxHeartbeats 4000000
/-! DL: walks over dicts whose keys are tuples. -/
namespace DL
open PySem PySem.Spec PyProof.Rows L2 Evl

def JKy (G : GX) (d : Addr) (xs : List Ent) (ep : Nat) : It :=
  ⟨fun i F => F d = some (.ext (fN G d xs ep)) ∧ i < xs.length, fun i F x F' => F' = F ∧ ∃ k a u, xs[i]? = some (k, a, u) ∧ x = .ref a, fun i F => F d = some (.ext (fN G d xs ep)) ∧ xs.length ≤ i⟩
def JVl (G : GX) (d : Addr) (xs : List Ent) (ep : Nat) (vs : List V) : It :=
  ⟨fun i F => F d = some (.ext (fN G d xs ep)) ∧ i < xs.length, fun i F x F' => F' = F ∧ vs[i]? = some x, fun i F => F d = some (.ext (fN G d xs ep)) ∧ xs.length ≤ i⟩
section
variable {X : Cx} {N : List Str} {sc : Scope} {k : Nat} {b : Bool} {ρ : EnvD} {M M1 M2 M' : MS} {pos : Pos} {Q : D → MS → Prop} {E : DEnds}
theorem raw_of {pins : List (Addr × Obj)} {σ : L2.St} {F : Hp} {t : Shared} {d : Addr} {xs : List Ent} {ep : Nat} (I : Inv X pins σ F t) (h : F d = some (.ext (fN (gx X) d xs ep))) :
    (d == sysModules) = false ∧ ∃ es, t.heap.DictRaw d es ep ∧ es.size = xs.length ∧ ∀ i (hi : i < es.size), ∃ k a u, xs[i]? = some (k, a, u) ∧ es[i].key = .ref a ∧ es[i].val = u := by
  obtain ⟨⟨h1, h2, o, es, h3, h4, h5, h6⟩, _⟩ := (show ObjOk X.prog X.w F t.heap d (.ext _) from I.hok d _ h)
  have hs := size_of_entries h6
  refine ⟨h1, es, ⟨o, h3, h4, h5⟩, hs, fun i hi => ?_⟩
  have hx := entry_at h6 i
  rw [Array.getElem?_eq_getElem hi] at hx
  cases q : xs[i]? with
  | none => rw [q] at hx; cases hx
  | some x =>
    rw [q] at hx
    have e : es[i] = entryOfKey (nestedKind X.prog X.w) x := Option.some.inj hx
    exact ⟨x.1, x.2.1, x.2.2, rfl, by rw [e]; rfl, by rw [e]; rfl⟩
theorem trn_ky {tg : Expr} {d : Addr} {xs : List Ent} {ep : Nat} (it : Addr) : Turn X.prog X.w X.K tg (JKy (gx X) d xs ep) [it] it (fun i h => h.IsKeyIter it d i xs.length ep) where
  mem := by simp
  obj := fun i h st c hc => by
    obtain rfl : c = it := by simpa using hc
    obtain ⟨oi, e, _, dd⟩ := st
    exact ⟨oi, e, fun v z => by rw [dd] at z; cases z⟩
  keep := fun i h h' st kp => st.at fun oi e => kp it (by simp) oi e
  item := by
    intro Y hP hw hK hc i pins t σ F E I hf st ⟨hd, hi⟩
    have eg : gx X = gx Y := by show (⟨X.prog, X.w, X.K⟩ : GX) = ⟨Y.prog, Y.w, Y.K⟩; rw [hP, hw, hK]
    rw [eg] at hd
    obtain ⟨_, es, raw, sz, ents⟩ := raw_of I hd
    obtain ⟨f0, f1, f2, f3, f4, f5⟩ := hf it (by simp)
    obtain ⟨kk, a, u, e1, e2, e3⟩ := ents i (by rw [sz]; exact hi)
    rw [← sz] at st
    refine wpAny_pyNext_keys_item_raw st raw (by rw [sz]; exact hi) fun h' st' sb => ?_
    have I1 : Inv Y pins σ F { t with heap := h' } := I.turned (t' := t.toks) (fun c ob hb e => (sb.2 c hb).trans e) f0 f1 f3 f4 f5
    obtain ⟨oi, e, c, dd⟩ := id st'
    exact ⟨_, rfl, go_of (s := { t with heap := h' }) e c dd (by decide) ⟨.ref a, F, I1, e2, ⟨rfl, kk, a, u, e1, rfl⟩, by rw [sz] at st'; exact st', fun c hc => (hf c hc).1⟩⟩
  done := by
    intro Y hP hw hK hc i pins t σ F E I hf st ⟨hd, hi⟩
    have eg : gx X = gx Y := by show (⟨X.prog, X.w, X.K⟩ : GX) = ⟨Y.prog, Y.w, Y.K⟩; rw [hP, hw, hK]
    rw [eg] at hd
    obtain ⟨_, es, raw, sz, ents⟩ := raw_of I hd
    obtain ⟨f0, f1, f2, f3, f4, f5⟩ := hf it (by simp)
    rw [← sz] at st
    exact wpAny_pyNext_keys_end_raw (I.ok.hd hc) st raw (by rw [sz]; exact hi) fun h' eb => ⟨rfl, I.turned (t' := t.toks) (fun c ob hb e => eb c ob hb e) f0 f1 f3 f4 f5⟩
  self := fun A i t Q E st h => wpAny_pyIter_keyiter st h
theorem trn_vl {tg : Expr} {d : Addr} {xs : List Ent} {ep : Nat} {vs : List V} (it : Addr) (hv : ∀ (i : Nat) k a u, xs[i]? = some (k, a, u) → ∃ v, vs[i]? = some v ∧ RelV v u) : Turn X.prog X.w X.K tg (JVl (gx X) d xs ep vs) [it] it (fun i h => h.IsValIter it d i xs.length ep) where
  mem := by simp
  obj := fun i h st c hc => by
    obtain rfl : c = it := by simpa using hc
    obtain ⟨oi, e, _, dd⟩ := st
    exact ⟨oi, e, fun v z => by rw [dd] at z; cases z⟩
  keep := fun i h h' st kp => st.at fun oi e => kp it (by simp) oi e
  item := by
    intro Y hP hw hK hc i pins t σ F E I hf st ⟨hd, hi⟩
    have eg : gx X = gx Y := by show (⟨X.prog, X.w, X.K⟩ : GX) = ⟨Y.prog, Y.w, Y.K⟩; rw [hP, hw, hK]
    rw [eg] at hd
    obtain ⟨_, es, raw, sz, ents⟩ := raw_of I hd
    obtain ⟨f0, f1, f2, f3, f4, f5⟩ := hf it (by simp)
    obtain ⟨kk, a, u, e1, e2, e3⟩ := ents i (by rw [sz]; exact hi)
    obtain ⟨v, ev, rv⟩ := hv i kk a u e1
    rw [← sz] at st
    refine wpAny_pyNext_values_item_raw st raw (by rw [sz]; exact hi) fun h' st' sb => ?_
    have I1 : Inv Y pins σ F { t with heap := h' } := I.turned (t' := t.toks) (fun c ob hb e => (sb.2 c hb).trans e) f0 f1 f3 f4 f5
    obtain ⟨oi, e, c, dd⟩ := id st'
    exact ⟨_, rfl, go_of (s := { t with heap := h' }) e c dd (by decide) ⟨v, F, I1, by rw [e3]; exact rv, ⟨rfl, ev⟩, by rw [sz] at st'; exact st', fun c hc => (hf c hc).1⟩⟩
  done := by
    intro Y hP hw hK hc i pins t σ F E I hf st ⟨hd, hi⟩
    have eg : gx X = gx Y := by show (⟨X.prog, X.w, X.K⟩ : GX) = ⟨Y.prog, Y.w, Y.K⟩; rw [hP, hw, hK]
    rw [eg] at hd
    obtain ⟨_, es, raw, sz, ents⟩ := raw_of I hd
    obtain ⟨f0, f1, f2, f3, f4, f5⟩ := hf it (by simp)
    rw [← sz] at st
    exact wpAny_pyNext_values_end_raw (I.ok.hd hc) st raw (by rw [sz]; exact hi) fun h' eb => ⟨rfl, I.turned (t' := t.toks) (fun c ob hb e => eb c ob hb e) f0 f1 f3 f4 f5⟩
  self := fun A i t Q E st h => wpAny_pyIter_valiter st h
theorem RpN.nth {G : GX} {F : Hp} : ∀ {xs : List Ent} {kvs : List (NK × D)}, RpN G F xs kvs → ∃ vs : List V, vs.length = xs.length ∧ ∀ (i : Nat) k a u, xs[i]? = some (k, a, u) → ∃ v d, vs[i]? = some v ∧ kvs[i]? = some (k, d) ∧ RelV v u ∧ Rp G F v d ∧ Rp G F (.ref a) (keyD k)
  | _, _, .nil => ⟨[], rfl, fun i k a u e => by simp at e⟩
  | _, _, @RpN.cons _ _ _ _ _ w0 _ _ _ h1 h2 h3 h4 r => by
    obtain ⟨vs, e1, e2⟩ := r.nth
    refine ⟨w0 :: vs, congrArg (· + 1) e1, fun i k a u e => ?_⟩
    cases i with
    | zero =>
      simp at e
      obtain ⟨rfl, rfl, rfl⟩ := e
      exact ⟨_, _, rfl, rfl, h3, h4, h1⟩
    | succ i =>
      obtain ⟨v, d, q⟩ := e2 i k a u (by simpa using e)
      exact ⟨v, d, by simpa using q.1, by simpa using q.2.1, q.2.2⟩
def keysD (kvs : List (NK × D)) : List D := kvs.map fun p => keyD p.1
def iKy (X : Cx) (te : TE) : TI := fun σ F R => te σ F fun x F1 => ∃ d xs ep, x = .ref d ∧ F1 d = some (.ext (fN (gx X) d xs ep)) ∧ R (JKy (gx X) d xs ep) F1
theorem pi_ky {tg e : Expr} {te : TE} (he : PE X e te) : PI X tg e (iKy X te) := by
  refine ⟨fun pins t σ F R I h => ?_⟩
  refine thn (he.run pins t σ F _ I h) fun u t1 ⟨x, F1, I1, rx, d, xs, ep, ex, hd, q⟩ => ?_
  subst ex
  obtain rfl : u = Value.ref d := rx
  obtain ⟨hs, es, raw, sz, _⟩ := raw_of I1 hd
  refine wpAny_pyIter_dict_raw hs raw (pi_one (tk := t1.toks) I1 _ (trn_ky _) ⟨_, Heap.get?_push_size _ rfl, rfl, ?_⟩ q)
  rw [sz] <;> rfl
/-- for k in d, d a frozen dict -/
theorem wi_ky {tg e : Expr} {R : List D → (MS → Prop) → MS → Prop} (h : WE X e ρ M fun d M1 => ∃ kvs, d = .dic kvs ∧ R (keysD kvs) (fun _ => True) M1) : WI X tg e ρ M R := fun σ F a R' l => by
  refine wp_pi (pi_ky pe_wp) (h σ F a _ fun v d M1 F1 ⟨kvs, e1, q⟩ m1 f1 r1 => ?_)
  subst e1
  cases r1 with
  | @dic p xs ep _ h1 h2 h3 =>
    have hl := h3.len
    refine ⟨p, xs, ep, rfl, hid_ex _ _ h1, l _ F1 _ _ M1 q m1 f1 ?_⟩
    have kl : (keysD kvs).length = xs.length := by rw [hl]; simp [keysD]
    have again : ∀ M' F', Fx M1 F1 M' F' → F' p = some (.ext (fN (gx X) p xs ep)) := fun M' F' f => hid_ex _ _ (f _ _ h1)
    refine ⟨fun i M' F' d' f m g e => ⟨again M' F' f, by rw [← kl]; exact (List.getElem?_eq_some_iff.mp e).1⟩, fun i M' F' x F2 d' f m g e y => ?_, fun M' F' f m g => ⟨again M' F' f, by rw [kl]; exact Nat.le_refl _⟩⟩
    obtain ⟨rfl, kk, ad, u, hx, rfl⟩ := y
    obtain ⟨vs, _, at_⟩ := h3.nth
    obtain ⟨v, dd, _, e3, _, _, rk⟩ := at_ i kk ad u hx
    have e4 : d' = keyD kk := by
      unfold keysD at e
      rw [List.getElem?_map, e3] at e
      exact (Option.some.inj e).symm
    subst e4
    exact ⟨Ex.refl _, rk.mono f⟩
def iVl (X : Cx) (te : TE) : TI := fun σ F R => te σ F fun x F1 => ∃ d xs ep vs, x = .ref d ∧ F1 d = some (.ext (fN (gx X) d xs ep)) ∧ (∀ (i : Nat) k a u, xs[i]? = some (k, a, u) → ∃ v, vs[i]? = some v ∧ RelV v u) ∧ R (JVl (gx X) d xs ep vs) F1
theorem pi_vl {tg e : Expr} {te : TE} {apos cpos : Pos} (he : PE X e te) (hbase : attributeBase e "values" X.env (eval e X.env) = eval e X.env := by rfl) (hline : (apos.endLine == cpos.line) = true := by rfl) : PI X tg (.Call (.Attribute e "values" apos) [] [] cpos) (iVl X te) := by
  refine ⟨fun pins t σ F R I h => ?_⟩
  refine wpAny_Call_method (T := "dict") (id := "dict.values") hbase rfl hline PySem.F.plainAttrs_dict PySem.F.slot_dict_values PySem.F.type_dict_values (thn (he.run pins t σ F _ I h) fun u t1 ⟨x, F1, I1, rx, d, xs, ep, vs, ex, hd, hv, q⟩ => ?_)
  subst ex
  obtain rfl : u = Value.ref d := rx
  obtain ⟨hs, es, raw, sz, _⟩ := raw_of I1 hd
  have I2 : Inv X pins σ F1 { t1 with heap := t1.heap.push { cls := .type "dict_values", data := .fields #[.ref d] } } := I1.kept (t' := t1.toks) fun c ob q => Heap.get?_push_of_some _ q
  refine ⟨raw.typeIs, fun c ec => ?_, ?_⟩
  · cases ec
    obtain ⟨o, ho, hx, _⟩ := raw
    exact ⟨o, ho, hx.2.1⟩
  have fin : wpAny (model X.prog X.w) X.A (pyIter (.ref t1.heap.objs.size)) (PIE X pins σ tg R) X.xe { t1 with heap := t1.heap.push { cls := .type "dict_values", data := .fields #[.ref d] } } := by
    refine wpAny_pyIter_values_raw (d := d) ⟨_, Heap.get?_push_size _ rfl, rfl, rfl⟩ (raw.at fun o e => Heap.get?_push_of_some _ e) (pi_one (tk := t1.toks) I2 _ (trn_vl _ hv) ⟨_, Heap.get?_push_size _ rfl, rfl, ?_⟩ q)
    rw [sz] <;> rfl
  show wpAny _ _ (callWith cpos (.builtin "dict.values") [.ref d] [] []) _ X.xe t1
  exact method_meetsIn PySem.F.slot_dict_values PySem.F.entry_dict_values rfl (PySem.evalArgs_none ⟨rfl, raw.typeIs, PySem.F.args_dict_values_1 _, _, meets_dict_values_raw d hs, ⟨es, ep, raw⟩, fin⟩)
/-- for v in d.values(), d a frozen dict -/
theorem wi_vl {tg e : Expr} {apos cpos : Pos} {R : List D → (MS → Prop) → MS → Prop} (h : WE X e ρ M fun d M1 => ∃ kvs, d = .dic kvs ∧ R (kvs.map (·.2)) (fun _ => True) M1) (hbase : attributeBase e "values" X.env (eval e X.env) = eval e X.env := by rfl) (hline : (apos.endLine == cpos.line) = true := by rfl) :
    WI X tg (.Call (.Attribute e "values" apos) [] [] cpos) ρ M R := fun σ F a R' l => by
  refine wp_pi (pi_vl pe_wp hbase hline) (h σ F a _ fun v d M1 F1 ⟨kvs, e1, q⟩ m1 f1 r1 => ?_)
  subst e1
  cases r1 with
  | @dic p xs ep _ h1 h2 h3 =>
    have hl := h3.len
    obtain ⟨vs, vl, at_⟩ := h3.nth
    refine ⟨p, xs, ep, vs, rfl, hid_ex _ _ h1, fun i kk ad u e => let ⟨v, _, q1, _, q2, _⟩ := at_ i kk ad u e; ⟨v, q1, q2⟩, l _ F1 _ _ M1 q m1 f1 ?_⟩
    have kl : (kvs.map (·.2)).length = xs.length := by rw [hl]; simp
    have again : ∀ M' F', Fx M1 F1 M' F' → F' p = some (.ext (fN (gx X) p xs ep)) := fun M' F' f => hid_ex _ _ (f _ _ h1)
    refine ⟨fun i M' F' d' f m g e => ⟨again M' F' f, by rw [← kl]; exact (List.getElem?_eq_some_iff.mp e).1⟩, fun i M' F' x F2 d' f m g e y => ?_, fun M' F' f m g => ⟨again M' F' f, by rw [kl]; exact Nat.le_refl _⟩⟩
    obtain ⟨rfl, hx⟩ := y
    have hi : i < xs.length := by rw [← kl]; exact (List.getElem?_eq_some_iff.mp e).1
    obtain ⟨v, dd, e2, e3, _, rd, _⟩ := at_ i xs[i].1 xs[i].2.1 xs[i].2.2 (List.getElem?_eq_getElem hi)
    rw [hx] at e2
    cases e2
    rw [List.getElem?_map, e3] at e
    cases e
    exact ⟨Ex.refl _, rd.mono f⟩
end
end DL

set_option maxHeartbeats 4000000
/-! DL: order of data: <, sorted, min, set. -/
namespace DL
open PySem PySem.Spec PyProof.Rows L2 Evl

section
variable {X : Cx} {N : List Str} {sc : Scope} {k : Nat} {b : Bool} {ρ : EnvD} {M M1 M2 M' : MS} {pos : Pos} {Q : D → MS → Prop} {E : DEnds}
/-- an item that is sorted: its value, its datum -/
abbrev VD := V × D
abbrev encV (p : VD) : PyData := toPy p.2
def leD (d e : D) : Bool := PySem.W.dataLe false toPy d e
theorem leD_eq (d e : D) : leD d e = !PySem.W.dataLt (toPy e) (toPy d) := rfl
theorem each_of {F : Hp} : ∀ {vs : List V} {us : List Value} {ds : List D}, RpA (gx X) F vs ds → Vals vs us → PySem.W.EachIs (fun u (p : VD) => RelV p.1 u ∧ Rp (gx X) F p.1 p.2) us (vs.zip ds)
  | _, _, _, .nil, .nil => .nil
  | _, _, _, .cons r ra, .cons ru rv => .cons ⟨ru, r⟩ (each_of ra rv)
theorem each_back {F : Hp} : ∀ {us : List Value} {ps : List VD}, PySem.W.EachIs (fun u (p : VD) => RelV p.1 u ∧ Rp (gx X) F p.1 p.2) us ps → Vals (ps.map (·.1)) us ∧ RpA (gx X) F (ps.map (·.1)) (ps.map (·.2))
  | _, _, .nil => ⟨.nil, .nil⟩
  | _, _, .cons ⟨a, c⟩ r => let ⟨h1, h2⟩ := each_back r; ⟨.cons a h1, .cons c h2⟩
theorem each_reads {pins : List (Addr × Obj)} {σ : L2.St} {H F : Hp} {s : Shared} {n : Nat} (I : Inv X pins σ H s) (ex : Ex F H) : ∀ {us : List Value} {ps : List VD}, PySem.W.EachIs (fun u (p : VD) => RelV p.1 u ∧ Rp (gx X) F p.1 p.2) us ps → (∀ p ∈ ps, datB n p.2 = true) → PySem.W.EachIs (fun v p => ∃ as, Reads s.heap v (encV p) as) us ps
  | _, _, .nil, _ => .nil
  | _, _, .cons ⟨a, c⟩ r, g => .cons (Dp.reads I _ _ _ (rp_dp (g _ List.mem_cons_self) (c.mono ex)) a) (each_reads I ex r fun p hp => g p (List.mem_cons_of_mem _ hp))
theorem sort_snd {ps : List VD} : (ps.mergeSort (PySem.W.dataLe false encV)).map (·.2) = (ps.map (·.2)).mergeSort leD := by
  rw [List.map_mergeSort]
  intro a _ b _
  rfl
theorem zip_snd {vs : List V} {ds : List D} (h : vs.length = ds.length) : (vs.zip ds).map (·.2) = ds := by
  rw [List.map_snd_zip]
  omega
theorem wc_sorted (h : XOk X N sc k b) {d : D} {ds : List D} (s : SqO M d ds) (g : ∀ e ∈ ds, datB 50 e = true) (hal : PySem.W.AllAlike (ds.map toPy)) (hk : PySem.W.Sortable (ds.map toPy)) (q : ∀ p, Q (.ref p) ((p, .lst (ds.mergeSort leD)) :: M)) : WC X (.builtin "sorted") [d] M Q := fun H vs m ra Qv l => by
  unfold wpC
  intro pins st σ us I rv
  cases ra with
  | cons r ra =>
    cases ra
    obtain ⟨u, rfl, ru⟩ := vals1 rv
    obtain ⟨p, ws, rfl, h1, ra⟩ := s.v m r
    cases ru
    obtain ⟨z2, its, n, rv2, hl, e⟩ := I.lstM h1
    have hL : st.heap.IsList p its.toArray := ⟨_, e, rfl, n, rfl⟩
    have ea := each_of (X := X) ra rv2
    have hz : ((ws.zip ds).map (·.2)) = ds := zip_snd ra.len
    have hz2 : ∀ x ∈ ws.zip ds, datB 50 x.2 = true := fun x hx => g _ (by rw [← hz]; exact List.mem_map.mpr ⟨x, hx, rfl⟩)
    have e3 : (ws.zip ds).map encV = ds.map toPy := by
      have : (ws.zip ds).map encV = ((ws.zip ds).map (·.2)).map toPy := by rw [List.map_map]; rfl
      rw [this, hz]
    refine PySem.W.sorted_data (enc := encV) hL ea (each_reads I hid_ex ea hz2) (by rw [e3]; exact hal) (by rw [e3]; exact hk) (by rw [List.length_zip]; omega) (fun x hx => ?_) fun out ho eo => ?_
    · have := (lay_py (hz2 x hx)).2
      have hu := h.room.un
      exact Nat.lt_of_le_of_lt (Nat.add_le_add_left this _) (by omega)
    · obtain ⟨h3, h4⟩ := each_back eo
      rw [sort_snd, hz] at h4
      obtain ⟨c, hc⟩ := PyProof.Rows.sortedAll_at st.heap its out.toArray
      have hlen : ((ws.zip ds).mergeSort (PySem.W.dataLe false encV)).length ≤ sizeLine := by rw [List.length_mergeSort, List.length_zip]; omega
      exact ⟨.ref _, _, I.laid (t' := st.toks) (o := .lst (((ws.zip ds).mergeSort (PySem.W.dataLe false encV)).map (·.1))) (fun _ _ => PyProof.Rows.sortedAll_old) (Nat.le_succ _) ⟨by rw [List.length_map]; exact hlen, out, c, h3, hc⟩, rfl, new_lst l m h4 q (I.hok.fresh (Nat.le_succ _))⟩
theorem wo_ltD (h : XOk X N sc k b) {d1 d2 : D} (g1 : datB 50 d1 = true) (g2 : datB 50 d2 = true) (hal : PySem.W.alike (toPy d1) (toPy d2) = true) (hn : toPy d1 ≠ .none) (q : Q (.bl (PySem.W.dataLt (toPy d1) (toPy d2))) M) : WO X (compareOp .Lt) d1 d2 M Q := fun H v1 v2 m r1 r2 Qv l => by
  unfold wpO
  intro pins st σ u v I ru rv
  obtain ⟨as, h1⟩ := Dp.reads I _ _ _ (rp_dp g1 (r1.mono hid_ex)) ru
  obtain ⟨bs, h2⟩ := Dp.reads I _ _ _ (rp_dp g2 (r2.mono hid_ex)) rv
  have hu := h.room.un
  have z1 := (lay_py g1).2
  refine PySem.W.lt_data h1 h2 hal hn (by omega) ⟨.bl _, H, I, rfl, l _ _ M H q m Fx.refl (.bl _)⟩
/-- min of a tuple of two whole numbers -/
theorem wc_min2 (h : XOk X N sc k b) {i j : Int} (q : Q (.int (if j < i then j else i)) M) : WC X (.builtin "min") [.tup [.int i, .int j]] M Q := fun H vs m ra Qv l => by
  unfold wpC
  intro pins st σ us I rv
  cases ra with
  | cons r ra =>
    cases ra
    obtain ⟨u, rfl, ru⟩ := vals1 rv
    cases r with
    | tup hs ra =>
      cases ru
      obtain ⟨its, rt, it, hz⟩ := I.tuple (ex_t hid_ex hs)
      cases ra with
      | cons r1 ra =>
        cases ra with
        | cons r2 ra =>
          cases ra
          cases r1
          cases r2
          obtain ⟨u1, u2, rfl, ⟨t1, rfl⟩, ⟨t2, rfl⟩⟩ := vals2 rt
          have hu := h.room.un
          refine PySem.W.min_tuple_data (x := .int i) (xs := [.int j]) (as := []) (I.ok.hd h.calm) it (by simpa using (PySem.ReadsAll.cons (PySem.Reads.int i t1) (PySem.ReadsAll.cons (PySem.Reads.int j t2) PySem.ReadsAll.nil))) ⟨fun x hx y hy => by simp at hx hy; rcases hx with rfl | rfl <;> rcases hy with rfl | rfl <;> simp [PySem.W.alike], fun x hx => by simp at hx; rcases hx with rfl | rfl <;> simp⟩ (by simp [PyData.depthAll, PyData.depth]; omega) fun ix v h' tk bs ev rd kp => ?_
          have em : PySem.W.minD (.int i) [.int j] = .int (if j < i then j else i) := by
            have h2 := PySem.W.minD_ints i [j]
            simp only [List.map_cons, List.map_nil, List.foldl_cons, List.foldl_nil] at h2
            rw [h2]
            congr 1
            by_cases hj : j < i
            · rw [if_pos hj]; omega
            · rw [if_neg hj]; omega
          rw [em] at rd
          cases rd with
          | int _ t => exact ⟨.int _, H, I.kept kp, ⟨_, rfl⟩, l _ _ M H q m Fx.refl (.int _)⟩
end
end DL

set_option maxHeartbeats 4000000
/-! DL: tuples that have methods, remove, sets of pairs, dicts of whole numbers. -/
namespace DL
open PySem PySem.Spec PyProof.Rows L2 Evl

section
variable {X : Cx} {N : List Str} {sc : Scope} {k : Nat} {b : Bool} {ρ : EnvD} {M M1 M2 M' : MS} {pos : Pos} {Q : D → MS → Prop} {E : DEnds}
theorem wc_tupleN {d : D} {ds : List D} (s : SqO M d ds) (q : Q (.tupN ds) M) : WC X (.type "tuple") [d] M Q := fun H vs m ra Qv l => by
  unfold wpC
  intro pins st σ us I rv
  cases ra with
  | cons r ra =>
    cases ra
    obtain ⟨u, rfl, ru⟩ := vals1 rv
    obtain ⟨p, ws, rfl, h1, ra⟩ := s.v m r
    cases ru
    obtain ⟨z2, its, n, rv2, hl, e⟩ := I.lstM h1
    have hL : st.heap.IsList p its.toArray := ⟨_, e, rfl, n, rfl⟩
    refine call_tuple_list hL (fun h' kp => ?_) (by rw [List.size_toArray, ← hl]; exact z2)
    have I1 : Inv X pins σ H { st with heap := h' } := I.kept (t' := st.toks) kp
    have hp : (h'.push { cls := .type "tuple", data := .seq its.toArray }).get? h'.objs.size = some { cls := .type "tuple", data := .seq its.toArray } := Heap.get?_push_size _ rfl
    have I2 : Inv X pins σ (upd H h'.objs.size (.frz { cls := .type "tuple", data := .seq its.toArray } (.tup ws))) { st with heap := h'.push { cls := .type "tuple", data := .seq its.toArray } } :=
      I1.laid (t' := st.toks) (fun b o e => Heap.get?_push_of_some _ e) (Nat.le_refl _) ⟨hp, z2, its, rv2, ⟨_, hp, rfl, _, rfl⟩⟩
    have hf : H h'.objs.size = none := I1.hok.fresh (Nat.le_refl _)
    have f2 : Fx M H M (upd H h'.objs.size (.frz { cls := .type "tuple", data := .seq its.toArray } (.tup ws))) := hid_new' hf
    have hn : h'.objs.size ∉ adr M := fun hm => by
      obtain ⟨x, hx, e⟩ := List.mem_map.mp hm
      obtain ⟨o, h1, _⟩ := m.ok x hx
      rw [e, hf] at h1
      cases h1
    refine ⟨.ref h'.objs.size, _, I2, rfl, l _ _ M _ q (m.ex (Ex.new hf)) f2 (.tupN (o := { cls := .type "tuple", data := .seq its.toArray }) (vs := ws) ?_ rfl (ra.mono f2))⟩
    unfold hid
    rw [if_neg hn]
    exact upd_same
/-- an item read -/
theorem item_eq {pins : List (Addr × Obj)} {σ : L2.St} {H F : Hp} {s : Shared} {n : Nat} (I : Inv X pins σ H s) (ex : Ex F H) {vs : List V} {us : List Value} {ds : List D} (ra : RpA (gx X) F vs ds) (rv : Vals vs us) (g : ∀ e ∈ ds, datB n e = true) :
    ∃ as, ReadsAll s.heap us (toPys ds) as ∧ us.length = ds.length ∧ ∀ (m : Nat) (hm : m < us.toArray.size) (z : D), ds[m]? = some z → SeqAt.readOf s.heap us.toArray[m] = toPy z := by
  obtain ⟨as, h4⟩ := Dp.readsAll I _ _ us (rp_dps g (ra.mono ex)) rv
  have hmap : us.map (SeqAt.readOf s.heap) = toPys ds := SeqAt.readsAll_map _ us as (lays_py g).1 h4
  refine ⟨as, h4, by rw [← rv.length, ra.len], fun m hm z hz => ?_⟩
  have hml : m < us.length := by simpa using hm
  have e : (us.map (SeqAt.readOf s.heap))[m]? = some (toPy z) := by rw [hmap, toPys_map, List.getElem?_map, hz]; rfl
  rw [List.getElem?_map, List.getElem?_eq_getElem hml] at e
  simpa using Option.some.inj e
theorem room_py (h : XOk X N sc k b) {n : Nat} (hn : n ≤ 60) {d : D} {ds : List D} (g1 : datB n d = true) (g2 : ∀ e ∈ ds, datB n e = true) : X.A.units + 1 + min (PyData.depthAll (toPys ds)) (toPy d).depth < cLine := by
  have hu := h.room.un
  have h1 := (lay_py g1).2
  have h2 := (lays_py g2).2
  omega
theorem wm_indexT (h : XOk X N sc k b) {ds : List D} {d z : D} {j : Nat} (g1 : datB 60 d = true) (g2 : ∀ e ∈ ds, datB 60 e = true) (hj : ds[j]? = some z) (hit : eqD z d = true) (hno : ∀ (m : Nat) (z' : D), m < j → ds[m]? = some z' → eqD z' d = false) (q : Q (.int j) M) : WM X "tuple.index" (.tupN ds) [d] M Q := fun H v vs m r ra Qv l => by
  unfold wpM
  intro pins st σ u us I ru rv
  cases r with
  | @tupN a ws _ o hh h0 rw' =>
    cases ru
    cases ra with
    | cons r1 ra =>
      cases ra
      obtain ⟨ux, rfl, rx⟩ := vals1 rv
      obtain ⟨e, _, its, rv2, o', h2, h3, n, h4⟩ := (show ObjOk X.prog X.w H st.heap a (.frz o (.tup ws)) from I.hok a _ (hid_ex _ _ hh))
      rw [e] at h2
      cases h2
      obtain ⟨oc, od, dt, sl⟩ := o
      simp only at h3 h4
      subst h3 h4
      obtain ⟨as, h5, h6, at_⟩ := item_eq I hid_ex rw' rv2 g2
      obtain ⟨bs, h7⟩ := Dp.reads I _ _ _ (rp_dp g1 (r1.mono hid_ex)) rx
      have hjl : j < its.toArray.size := by
        have := (List.getElem?_eq_some_iff.mp hj).1
        rw [List.size_toArray, h6]
        exact this
      refine call_meets PySem.F.slot_tuple_index ⟨_, e, rfl⟩ PySem.F.entry_tuple_index (PySem.F.args_tuple_index_2 _ _)
        (TI.tuple_indexAt a its.toArray n od sl ux (fun u => PyData.eqv (SeqAt.readOf st.heap u) (toPy d)) j hjl ?_ ?_) ⟨e, SeqAt.items_eqAt (vs := its.toArray) h5 h7 (lays_py g2).1 (lay_py g1).1 (room_py h (by decide) g1 g2), ⟨.int j, H, I.tok _, ⟨_, rfl⟩, l _ _ M H q m Fx.refl (.int _)⟩⟩
      · show PyData.eqv (SeqAt.readOf st.heap its.toArray[j]) (toPy d) = true
        rw [at_ j hjl z hj]
        exact hit
      · intro m' hm hmj
        have hmd : m' < ds.length := by rw [← h6]; simpa using hm
        have hz' : ds[m']? = some ds[m'] := List.getElem?_eq_getElem hmd
        show PyData.eqv (SeqAt.readOf st.heap its.toArray[m']) (toPy d) = false
        rw [at_ m' hm _ hz']
        exact hno m' _ hmj hz'
theorem RpA.erase {G : GX} {F : Hp} : ∀ {vs : List V} {ds : List D} (i : Nat), RpA G F vs ds → RpA G F (vs.eraseIdx i) (ds.eraseIdx i)
  | _, _, _, .nil => .nil
  | _, _, 0, .cons _ r => r
  | _, _, i + 1, .cons h r => .cons h (RpA.erase i r)
theorem wm_remove (h : XOk X N sc k b) {p : Addr} {ds : List D} {d z : D} {j : Nat} (kk : Nat) (hk : M[kk]? = some (p, .lst ds)) (g1 : datB 60 d = true) (g2 : ∀ e ∈ ds, datB 60 e = true) (hj : ds[j]? = some z) (hit : eqD z d = true) (hno : ∀ (m : Nat) (z' : D), m < j → ds[m]? = some z' → eqD z' d = false) (q : Q .non (M.set kk (p, .lst (ds.eraseIdx j)))) : WM X "list.remove" (.ref p) [d] M Q := fun H v vs m r ra Qv l => by
  unfold wpM
  intro pins st σ u us I ru rv
  cases r
  cases ru
  cases ra with
  | cons r1 ra =>
    cases ra
    obtain ⟨ux, rfl, rx⟩ := vals1 rv
    obtain ⟨o, h1, ws, e, h2⟩ := m.at hk
    subst e
    obtain ⟨z2, its, n, rv2, hl, e⟩ := I.lstM h1
    obtain ⟨as, h5, h6, at_⟩ := item_eq I hid_ex h2 rv2 g2
    obtain ⟨bs, h7⟩ := Dp.reads I _ _ _ (rp_dp g1 (r1.mono hid_ex)) rx
    have hjl : j < its.toArray.size := by
      have := (List.getElem?_eq_some_iff.mp hj).1
      rw [List.size_toArray, h6]
      exact this
    refine call_meets PySem.F.slot_list_remove ⟨_, e, rfl⟩ PySem.F.entry_list_remove (PySem.F.args_list_remove_2 _ _)
      (PySem.SeqAt.list_removeAt p its.toArray n none #[] ux (fun u => PyData.eqv (SeqAt.readOf st.heap u) (toPy d)) j hjl ?_ ?_ (by rw [List.size_toArray, ← hl]; exact z2)) ⟨e, SeqAt.items_eqAt (vs := its.toArray) h5 h7 (lays_py g2).1 (lay_py g1).1 (room_py h (by decide) g1 g2), ?_⟩
    · show PyData.eqv (SeqAt.readOf st.heap its.toArray[j]) (toPy d) = true
      rw [at_ j hjl z hj]
      exact hit
    · intro m' hm hmj
      have hmd : m' < ds.length := by rw [← h6]; simpa using hm
      have hz' : ds[m']? = some ds[m'] := List.getElem?_eq_getElem hmd
      show PyData.eqv (SeqAt.readOf st.heap its.toArray[m']) (toPy d) = false
      rw [at_ m' hm _ hz']
      exact hno m' _ hmj hz'
    · refine ⟨.non, _, I.lset (its' := its.eraseIdx j) (ys := ws.eraseIdx j) h1 e ?_ (rv2.eraseIdx j) ?_, rfl, l.put (.lst _) m hk ⟨_, rfl, h2.erase j⟩ q .non⟩
      · show its.toArray.eraseIdxIfInBounds j = (its.eraseIdx j).toArray
        rw [List.eraseIdxIfInBounds_toArray]
      · have := len_erase ws j
        omega
end
end DL

set_option maxHeartbeats 4000000
/-! DL: sets of pairs, dicts of whole numbers, empty dicts, list(d), lists unpacked. -/
namespace DL
open PySem PySem.Spec PyProof.Rows L2 Evl

abbrev sqD (p : Int × Int) : D := .tup [.int p.1, .int p.2]
section
variable {X : Cx} {N : List Str} {sc : Scope} {k : Nat} {b : Bool} {ρ : EnvD} {M M1 M2 M' : MS} {pos : Pos} {Q : D → MS → Prop} {E : DEnds}
theorem pairs_ks {G : GX} {F : Hp} : ∀ {ps : List (Int × Int)} {vs : List V}, RpA G F vs (ps.map sqD) → ∃ ks : List (Addr × List Int), vs = ks.map (fun p => V.ref p.1) ∧ ks.map (·.2) = ps.map (fun p => [p.1, p.2]) ∧ ∀ p ∈ ks, SqT G.K F p.1 (p.2.map V.int)
  | [], _, r => by cases r; exact ⟨[], rfl, rfl, fun _ h => nomatch h⟩
  | p :: ps, _, .cons r ra => by
    obtain ⟨ks, e1, e2, e3⟩ := pairs_ks (ps := ps) ra
    subst e1
    cases r with
    | @tup a ws _ hs rw' =>
      cases rw' with
      | cons r1 rw' =>
        cases rw' with
        | cons r2 rw' =>
          cases rw'
          cases r1
          cases r2
          refine ⟨(a, [p.1, p.2]) :: ks, rfl, by rw [List.map_cons, List.map_cons, e2], fun q hq => ?_⟩
          rcases List.mem_cons.mp hq with e | hq
          · subst e; exact hs
          · exact e3 q hq
theorem ks_rp {G : GX} {F : Hp} : ∀ {ks : List (Addr × List Int)} {ps : List (Int × Int)}, ks.map (·.2) = ps.map (fun p => [p.1, p.2]) → (∀ p ∈ ks, SqT G.K F p.1 (p.2.map V.int)) → RpA G F (ks.map fun p => V.ref p.1) (ps.map sqD)
  | [], [], _, _ => .nil
  | [], _ :: _, e, _ => by simp at e
  | _ :: _, [], e, _ => by simp at e
  | (a, ns) :: ks, p :: ps, e, h => by
    rw [List.map_cons, List.map_cons] at e
    have e1 : ns = [p.1, p.2] := (List.cons.inj e).1
    subst e1
    exact .cons (.tup (h _ List.mem_cons_self) (.cons (.int _) (.cons (.int _) .nil))) (ks_rp (List.cons.inj e).2 fun q hq => h q (List.mem_cons_of_mem _ hq))
theorem bound_of (ps : List (Int × Int)) : ∃ B : Int, ∀ p ∈ ps, p.1 < B ∧ p.2 < B := by
  induction ps with
  | nil => exact ⟨0, fun _ h => nomatch h⟩
  | cons p ps ih =>
    obtain ⟨B, h⟩ := ih
    refine ⟨B + 1 + p.1.natAbs + p.2.natAbs + B.natAbs, fun q hq => ?_⟩
    rcases List.mem_cons.mp hq with e | hq
    · subst e; omega
    · have := h q hq; omega
/-- sorted(set(xs)), xs pairs of whole numbers from 0 on -/
theorem wo_sortedSet (h : XOk X N sc k b) {e : Expr} {p1 p2 pos2 : Pos} (hg1 : glB sc "sorted" = true) (hm1 : X.mg "sorted" = none) (hg2 : glB sc "set" = true) (hm2 : X.mg "set" = none)
    (he : WE X e ρ M fun d M1 => ∃ ps : List (Int × Int), SqO M1 d (ps.map sqD) ∧ ps.length < 64 ∧ (∀ p ∈ ps, 0 ≤ p.1 ∧ 0 ≤ p.2) ∧ ∀ (out : List (Int × Int)) p, out.Nodup → (∀ q, q ∈ out ↔ q ∈ ps) → Q (.ref p) ((p, .lst (out.map sqD)) :: M1))
    (hs1 : starEach [.Call (.Name "set" p2) [e] [] pos2] X.env = (false, eval (.Call (.Name "set" p2) [e] [] pos2) X.env) :: starEach [] X.env := by rfl) (hs2 : starEach [e] X.env = (false, eval e X.env) :: starEach [] X.env := by rfl) :
    WE X (.Call (.Name "sorted" p1) [.Call (.Name "set" p2) [e] [] pos2] [] pos) ρ M Q := fun σ H a Qv l => by
  refine wp_pe (pe_callB (cr_sortedT h.calm) (h.gl hg1) hm1 boot_sorted (pa_cons (pe_callTy (cr_setOfT h.calm h.un64) (h.gl hg2) hm2 boot_set (pa_cons pe_wp pa_nil hs2) (by decide) (by decide) hs2 (by rfl)) pa_nil hs1) (by decide) (by decide) hs1 (by rfl)) ?_
  refine he σ H a _ fun v d M1 H1 ⟨ps, s, z, nn, q⟩ m1 f1 r1 => ?_
  obtain ⟨p, vs, rfl, hq, ra⟩ := s.v (X := X) m1 r1
  obtain ⟨ks, e1, e2, e3⟩ := pairs_ks ra
  subst e1
  have hlen : ks.length = ps.length := by have := congrArg List.length e2; simpa using this
  refine ⟨p, ks, rfl, sq_of hq, fun q hq => ex_t hid_ex (e3 q hq), by omega, fun sa L hsa sub all => ?_⟩
  obtain ⟨B, hB⟩ := bound_of ps
  have memks : ∀ q ∈ ks, ∃ r ∈ ps, q.2 = [r.1, r.2] := fun q hq => by
    have : q.2 ∈ ks.map (·.2) := List.mem_map.mpr ⟨q, hq, rfl⟩
    rw [e2] at this
    obtain ⟨r, hr, e⟩ := List.mem_map.mp this
    exact ⟨r, hr, e.symm⟩
  refine ⟨sa, L, 2, B, rfl, upd_same, fun q hq => ex_t (Ex.new hsa) (ex_t hid_ex (e3 q (sub q hq))), by decide, fun q hq => ?_, fun L' p' pm nd few _ hp' => ?_⟩
  · obtain ⟨r, hr, e⟩ := memks q (sub q hq)
    rw [e]
    refine ⟨rfl, fun m hm => ?_⟩
    have h1 := hB r hr
    have h2 := nn r hr
    simp at hm
    rcases hm with rfl | rfl <;> omega
  · let out : List (Int × Int) := L'.map fun q => (q.2.getD 0 0, q.2.getD 1 0)
    have mL : ∀ q ∈ L', q ∈ ks := fun q hq => sub q (pm.mem_iff.mp hq)
    have eo : L'.map (·.2) = out.map (fun p => [p.1, p.2]) := by
      show _ = (L'.map _).map _
      rw [List.map_map]
      refine List.map_congr_left fun q hq => ?_
      obtain ⟨r, hr, e⟩ := memks q (mL q hq)
      show q.2 = [q.2.getD 0 0, q.2.getD 1 0]
      rw [e]; rfl
    have inj : ∀ x y : Int × Int, ([x.1, x.2] : List Int) = [y.1, y.2] → x = y := fun x y e => by
      simp at e
      exact Prod.ext e.1 e.2
    have nd' : out.Nodup := by
      rw [eo] at nd
      exact List.Pairwise.of_map (fun p : Int × Int => [p.1, p.2]) (fun a b h e => h (by rw [e])) nd
    have mem : ∀ q, q ∈ out ↔ q ∈ ps := fun q => by
      constructor
      · intro hq
        have : [q.1, q.2] ∈ out.map (fun p => [p.1, p.2]) := List.mem_map.mpr ⟨q, hq, rfl⟩
        rw [← eo] at this
        obtain ⟨t, ht, et⟩ := List.mem_map.mp this
        obtain ⟨r, hr, e⟩ := memks t (mL t ht)
        rw [← inj r q (e.symm.trans et)]
        exact hr
      · intro hq
        have : [q.1, q.2] ∈ ks.map (·.2) := by rw [e2]; exact List.mem_map.mpr ⟨q, hq, rfl⟩
        obtain ⟨t, ht, et⟩ := List.mem_map.mp this
        have h3 := all t ht
        rw [et] at h3
        have h4 : [q.1, q.2] ∈ L'.map (·.2) := (pm.map (·.2)).mem_iff.mpr h3
        rw [eo] at h4
        obtain ⟨r, hr, e⟩ := List.mem_map.mp h4
        rw [← inj r q e]
        exact hr
    have m2 : MSt (gx X) M1 (upd H1 sa (SetTO X.prog X.w sa L)) := m1.ex (Ex.new hsa)
    have f2 : Fx M1 H1 M1 (upd H1 sa (SetTO X.prog X.w sa L)) := hid_new' hsa
    have rL : RpA (gx X) (hid (adr M1) (upd H1 sa (SetTO X.prog X.w sa L))) (L'.map fun q => V.ref q.1) (out.map sqD) := ks_rp eo fun q hq => ex_t f2 (e3 q (mL q hq))
    exact new_lst (l.go (Ex.trans f1 f2)) m2 rL (fun p => q out p nd' mem) hp'
/-! ### {} -/
theorem wo_dic0 (q : ∀ p, Q (.ref p) ((p, .dic []) :: M)) : WE X (.Dict [] [] pos) ρ M Q := fun σ H a Qv l => by
  unfold wpE
  exact fun pins s I => wpAny_Dict_empty ⟨.ref s.heap.objs.size, _, empty_ok I, rfl, l _ _ _ _ (q _) (a.m.new I.fresh ⟨[], 0, rfl, by simp, .nil⟩) (hid_new I.fresh) (.ref _)⟩
theorem wo_dik0 (q : ∀ p, Q (.ref p) ((p, .dik []) :: M)) : WE X (.Dict [] [] pos) ρ M Q := fun σ H a Qv l =>
  wp_pe pe_dnewK fun p hp => l _ _ _ _ (q p) (a.m.new hp ⟨[], rfl, .nil⟩) (hid_new hp) (.ref _)
/-! ### dicts of whole numbers -/
def putI (kvs : List (Int × D)) (i : Int) (d : D) : List (Int × D) := if (kvs.lookup i).isSome = true then kvs.map (fun x => if x.1 = i then (x.1, d) else x) else kvs ++ [(i, d)]
theorem RpK.len {G : GX} {F : Hp} : ∀ {ks : List (Key × V)} {kvs : List (Int × D)}, RpK G F ks kvs → ks.length = kvs.length
  | _, _, .nil => rfl
  | _, _, .cons _ r => congrArg (· + 1) r.len
theorem RpK.app {G : GX} {F : Hp} : ∀ {ks ls : List (Key × V)} {kvs lvs : List (Int × D)}, RpK G F ks kvs → RpK G F ls lvs → RpK G F (ks ++ ls) (kvs ++ lvs)
  | _, _, _, _, .nil, s => s
  | _, _, _, _, .cons a r, s => .cons a (r.app s)
theorem RpK.at {G : GX} {F : Hp} : ∀ {ks : List (Key × V)} {kvs : List (Int × D)} {i : Int}, RpK G F ks kvs → match kvs.lookup i with
    | some d => ∃ v, valV ks (.inl i) = some v ∧ Rp G F v d
    | none => valV ks (.inl i) = none
  | _, _, i, .nil => by simp [List.lookup, valV]
  | _, _, i, @RpK.cons _ _ i' v d ks kvs h r => by
    have ih := RpK.at (i := i) r
    by_cases e : i' = i
    · subst e
      have e1 : List.lookup i' ((i', d) :: kvs) = some d := by simp [List.lookup]
      rw [e1]
      exact ⟨v, valV_pos rfl, h⟩
    · have e1 : List.lookup i ((i', d) :: kvs) = List.lookup i kvs := by
        have : (i == i') = false := by simpa using fun q => e q.symm
        simp [List.lookup, this]
      have e2 : valV ((.inl i', v) :: ks) (.inl i) = valV ks (.inl i) := valV_neg fun q => e (Sum.inl.inj q)
      rw [e1, e2]
      exact ih
theorem RpK.anyI {G : GX} {F : Hp} : ∀ {ks : List (Key × V)} {kvs : List (Int × D)} {i : Int}, RpK G F ks kvs → (ks.any fun kv => decide (kv.1 = .inl i)) = (kvs.lookup i).isSome
  | _, _, _, .nil => rfl
  | _, _, i, @RpK.cons _ _ i' v d ks kvs h r => by
    have ih := RpK.anyI (i := i) r
    by_cases e : i' = i
    · subst e; simp [List.lookup]
    · have e1 : List.lookup i ((i', d) :: kvs) = List.lookup i kvs := by
        have : (i == i') = false := by simpa using fun q => e q.symm
        simp [List.lookup, this]
      rw [e1, ← ih]
      simp [e]
theorem RpK.putAll {G : GX} {F : Hp} : ∀ {ks : List (Key × V)} {kvs : List (Int × D)} {i : Int} {v : V} {d : D}, RpK G F ks kvs → Rp G F v d → RpK G F (ks.map fun kv => if kv.1 = .inl i then (kv.1, v) else kv) (kvs.map fun x => if x.1 = i then (x.1, d) else x)
  | _, _, _, _, _, .nil, _ => .nil
  | _, _, i, _, _, @RpK.cons _ _ i' _ _ _ _ h r, rd => by
    rw [List.map_cons, List.map_cons]
    by_cases e : i' = i
    · subst e; simp only [if_true]; exact .cons rd (r.putAll rd)
    · have e2 : ¬ ((Sum.inl i' : Key) = .inl i) := fun q => e (Sum.inl.inj q)
      simp only [e, e2, if_false]; exact .cons h (r.putAll rd)
theorem RpK.put {G : GX} {F : Hp} {ks : List (Key × V)} {kvs : List (Int × D)} {i : Int} {v : V} {d : D} (r : RpK G F ks kvs) (rd : Rp G F v d) : RpK G F (putK ks (.inl i) v) (putI kvs i d) := by
  unfold putK putI
  rw [r.anyI]
  split
  · exact r.putAll rd
  · exact r.app (.cons rd .nil)
inductive Di (M : MS) : D → List (Int × D) → Prop
  | dik {kvs : List (Int × D)} : Di M (.dik kvs) kvs
  | ref {p : Addr} {kvs : List (Int × D)} (k : Nat) (h : M[k]? = some (p, .dik kvs)) : Di M (.ref p) kvs
theorem Di.v {d : D} {kvs : List (Int × D)} (s : Di M d kvs) {G : GX} {H : Hp} {v : V} (m : MSt G M H) (r : Rp G (hid (adr M) H) v d) : ∃ p ks, v = .ref p ∧ H p = some (.dK ks) ∧ RpK G (hid (adr M) H) ks kvs := by
  cases s with
  | dik => cases r with | dik h1 h2 => exact ⟨_, _, rfl, hid_ex _ _ h1, h2⟩
  | ref k h =>
    cases r
    obtain ⟨o, h1, ks, e, h2⟩ := m.at h
    subst e
    exact ⟨_, ks, rfl, h1, h2⟩
theorem val_some {G : GX} {F : Hp} {ks : List (Key × V)} {kvs : List (Int × D)} {i : Int} (r : RpK G F ks kvs) : (valV ks (.inl i)).isSome = (kvs.lookup i).isSome := by
  have := r.at (i := i)
  cases e : kvs.lookup i with
  | none => rw [e] at this; simp only at this; rw [this]; rfl
  | some d => rw [e] at this; obtain ⟨v, h, _⟩ := this; rw [h]; rfl
theorem wo_inI (h : XOk X N sc k b) {d : D} {i : Int} {kvs : List (Int × D)} (s : Di M d kvs) (q : Q (.bl (kvs.lookup i).isSome) M) : WO X (compareOp .In) (.int i) d M Q := fun H v1 v2 m r1 r2 Qv l => by
  unfold wpO
  intro pins st σ u v I ru rv
  cases r1
  obtain ⟨p, ks, rfl, h1, h2⟩ := s.v m r2
  cases rv
  refine d_in h.un I (DGet.k (k := .inl i) h1) ru fun s' I' => ⟨.bl _, H, I', rfl, ?_⟩
  rw [val_some h2]
  exact l _ _ M H q m Fx.refl (.bl _)
theorem wo_ninI (h : XOk X N sc k b) {d : D} {i : Int} {kvs : List (Int × D)} (s : Di M d kvs) (q : Q (.bl (!(kvs.lookup i).isSome)) M) : WO X (compareOp .NotIn) (.int i) d M Q := fun H v1 v2 m r1 r2 Qv l => by
  unfold wpO
  intro pins st σ u v I ru rv
  cases r1
  obtain ⟨p, ks, rfl, h1, h2⟩ := s.v m r2
  cases rv
  refine d_notIn h.un I (DGet.k (k := .inl i) h1) ru fun s' I' => ⟨.bl _, H, I', rfl, ?_⟩
  rw [val_some h2]
  exact l _ _ M H q m Fx.refl (.bl _)
theorem wst_dik (h : XOk X N sc k b) {p : Addr} {i : Int} {d : D} {kvs : List (Int × D)} {Q : MS → Prop} (kk : Nat) (hM : M[kk]? = some (p, .dik kvs)) (z : kvs.length < 16000000) (q : Q (M.set kk (p, .dik (putI kvs i d)))) : WSt X (.ref p) (.int i) d M Q := fun H v1 v2 v m r1 r2 r Qv l => by
  unfold wpSt
  intro pins st σ ou iu u I ro ri rv
  cases r1
  cases r2
  cases ro
  obtain ⟨o, h1, ks, e, h2⟩ := m.at hM
  subst e
  refine d_setItem h.un I (DPut.k (k := .inl i) h1 (by rw [h2.len, sizeLine_eq]; omega)) ri rv fun s' I' => ⟨_, I', l.put (.dik _) m hM ⟨_, rfl, h2.put r⟩ q⟩
theorem rcv_dik {d : D} {kvs : List (Int × D)} (s : Di M d kvs) : Rcv X "dict" d M := fun H v m r pins σ st u I ru => by
  obtain ⟨p, ks, rfl, h1, h2⟩ := s.v m r
  cases ru
  obtain ⟨h3, h4, _⟩ := isD_at I (.inl ⟨ks, .inl h1⟩)
  exact ⟨h3, h4⟩
theorem wm_getI (h : XOk X N sc k b) {d1 d : D} {i : Int} {kvs : List (Int × D)} (s : Di M d1 kvs) (q : Q ((kvs.lookup i).getD d) M) : WM X "dict.get" d1 [.int i, d] M Q := fun H v1 vs m r1 ra Qv l => by
  unfold wpM
  intro pins st σ u us I ru rv
  cases ra with
  | cons r2 ra =>
    cases ra with
    | cons r ra =>
      cases ra
      cases r2
      obtain ⟨p, ks, rfl, h1, h2⟩ := s.v m r1
      cases ru
      obtain ⟨u1, u2, rfl, rx, ry⟩ := vals2 rv
      refine d_get2 h.un I (DGet.k (k := .inl i) h1) rx ry fun w' s' I' rw' => ⟨_, H, I', rw', ?_⟩
      have at_ := h2.at (i := i)
      cases hd : kvs.lookup i with
      | none =>
        rw [hd] at at_ q
        simp only at at_
        rw [at_]
        exact l _ _ M H q m Fx.refl r
      | some d' =>
        rw [hd] at at_ q
        obtain ⟨v', h7, h8⟩ := at_
        rw [h7]
        exact l _ _ M H q m Fx.refl h8
/-- dict([(i, x), ..]) -/
def prI (ps : List (Int × D)) : List D := ps.map fun p => .tup [.int p.1, p.2]
def putsI (kvs ps : List (Int × D)) : List (Int × D) := ps.foldl (fun acc p => putI acc p.1 p.2) kvs
theorem RpK.puts {G : GX} {F : Hp} : ∀ {rs ks : List (Key × V)} {kvs qs : List (Int × D)}, RpK G F ks kvs → RpK G F rs qs → RpK G F (mergeK ks rs) (putsI kvs qs)
  | _, _, _, _, r, .nil => r
  | _, _, _, _, r, @RpK.cons _ _ i _ _ _ _ a t => by
    have h := RpK.puts (r.put (i := i) a) t
    exact h
theorem prI_of {G : GX} {F : Hp} : ∀ {ps : List (Int × D)} {vs : List V}, RpA G F vs (prI ps) → ∃ (Ts : List Addr) (ks : List (Key × V)), vs = Ts.map V.ref ∧ RpK G F ks ps ∧ Paired (fun p kv => SqT G.K F p [kV kv.1, kv.2]) Ts ks
  | [], _, r => by
    simp only [prI, List.map_nil] at r
    cases r
    exact ⟨[], [], rfl, .nil, .nil⟩
  | p :: ps, _, r => by
    simp only [prI, List.map_cons] at r
    cases r with
    | cons r ra =>
      obtain ⟨Ts, ks, e1, e2, e3⟩ := prI_of (ps := ps) ra
      subst e1
      cases r with
      | @tup a ws _ hs rw' =>
        cases rw' with
        | cons r1 rw' =>
          cases rw' with
          | cons r2 rw' =>
            cases rw'
            cases r1
            exact ⟨a :: Ts, (.inl p.1, _) :: ks, rfl, .cons r2 e2, .cons hs e3⟩
theorem wc_dictI (h : XOk X N sc k b) {d : D} {ps : List (Int × D)} (s : SqO M d (prI ps)) (q : ∀ p, Q (.ref p) ((p, .dik (putsI [] ps)) :: M)) : WC X (.type "dict") [d] M Q := wc_cr (call_dictP h.calm) fun H vs m ra Qv l => by
  cases ra with
  | cons r ra =>
    cases ra
    obtain ⟨p, vs, rfl, hq, ra⟩ := s.v (X := X) m r
    obtain ⟨Ts, ks, e1, e2, e3⟩ := prI_of ra
    subst e1
    refine ⟨p, Ts, ks, rfl, sq_of hq, L2.Paired.mapP e3 fun _ _ z => ex_t hid_ex z, fun p' hp => ?_⟩
    exact l _ _ _ _ (q p') (m.new hp ⟨_, rfl, RpK.puts .nil e2⟩) (hid_new hp) (.ref _)
theorem RpN.krp {G : GX} {F : Hp} : ∀ {xs : List Ent} {kvs : List (NK × D)}, RpN G F xs kvs → RpA G F (xs.map fun x => V.ref x.2.1) (keysD kvs)
  | _, _, .nil => .nil
  | _, _, .cons a _ _ _ r => .cons a r.krp
/-! ### list(d), d a dict whose keys are tuples -/
theorem wc_listN (h : XOk X N sc k b) {d : D} {kvs : List (NK × D)} (s : Dc M d kvs) (q : ∀ p, Q (.ref p) ((p, .lst (keysD kvs)) :: M)) : WC X (.type "list") [d] M Q := fun H vs m ra Qv l => by
  unfold wpC
  intro pins st σ us I rv
  cases ra with
  | cons r ra =>
    cases ra
    obtain ⟨u, rfl, ru⟩ := vals1 rv
    obtain ⟨p, xs, ep, rfl, h1, h2, h3⟩ := s.v (G := gx X) m r
    cases ru
    obtain ⟨hs, es, raw, sz, ents⟩ := raw_of I h1
    obtain ⟨o, ho, hx, hdt⟩ := raw
    have hl : xs.length ≤ sizeLine := (dict_of I h1 h2 (h3.mono hid_ex)).2.1
    obtain ⟨vs, vl, at_⟩ := h3.nth
    refine PySem.W.kdl_call (kdl_raw hs hx hdt) (I.ok.hd h.calm) ho (by omega) fun h' tk acc' c' kp e it => ?_
    have alen : acc'.toList.length = xs.length := by rw [Array.length_toList, it.1, sz]
    have rk : RpA (gx X) (hid (adr M) H) (xs.map fun x => V.ref x.2.1) (keysD kvs) := h3.krp
    have rvv : Vals (xs.map fun x => V.ref x.2.1) acc'.toList := by
      refine vals_of_at (by rw [List.length_map, alen]) fun j x w hx hw => ?_
      rw [List.getElem?_map] at hx
      cases hj : xs[j]? with
      | none => rw [hj] at hx; cases hx
      | some y =>
        rw [hj] at hx
        cases hx
        obtain ⟨en, hen, hv⟩ := it.2 j w (by rw [← Array.getElem?_toList]; exact hw)
        have hje : j < es.size := (Array.getElem?_eq_some_iff.mp hen).1
        obtain ⟨kk, a, u, q1, q2, _⟩ := ents j hje
        rw [Array.getElem?_eq_getElem hje] at hen
        cases hen
        rw [hj] at q1
        cases q1
        show RelV (.ref a) w
        rw [hv, q2]
        rfl
    exact ⟨.ref st.heap.objs.size, _, I.laid (t' := tk) (o := .lst (xs.map fun x => V.ref x.2.1)) kp (Nat.le_refl _) ⟨by rw [List.length_map]; exact hl, acc'.toList, c', rvv, by rw [Array.toArray_toList]; exact e⟩, rfl, new_lst l m rk q (I.hok.fresh (Nat.le_refl _))⟩
end
end DL

set_option maxHeartbeats 4000000
/-! DL: lists unpacked, comprehensions whose items are new objects, small forms. -/
namespace DL
open PySem PySem.Spec PyProof.Rows L2 Evl

section
variable {X : Cx} {N : List Str} {sc : Scope} {k : Nat} {b : Bool} {ρ : EnvD} {M M1 M2 M' : MS} {pos : Pos} {Q : D → MS → Prop} {E : DEnds}
theorem wg_lst (h : XOk X N sc k b) {ts : List Expr} {kk : Nat} {d : D} {ds : List D} {Q : EnvD → MS → Prop} (s : SqO M d ds) (q : WGs X ts ds ρ M Q) (hl : ds.length = ts.length) (hn : (assignEach ts X.env).length = ts.length := by rfl) (hst : (assignEach ts X.env).findIdx? (·.1) = none := by rfl) : WG X (.Tuple ts kk pos) d ρ M Q := fun v σ H a r Qv l => by
  obtain ⟨t, p, q⟩ := q
  obtain ⟨pa, vs, rfl, hq, ra⟩ := s.v (X := X) a.m r
  exact wp_pg (pg_lst h.calm p hn hst) ⟨pa, vs, rfl, sq_of hq, by rw [ra.len]; exact hl, q _ σ H a ra Qv l⟩
theorem set_mid {α : Type} (as bs : List α) (x y : α) : (as ++ x :: bs).set as.length y = as ++ y :: bs := by
  induction as with
  | nil => rfl
  | cons a as ih => exact congrArg (a :: ·) ih
theorem get_mid {α : Type} (as bs : List α) (x : α) : (as ++ x :: bs)[as.length]? = some x := by
  induction as with
  | nil => rfl
  | cons a as ih => exact ih
/-- a comprehension whose items may be new objects; no test -/
theorem wo_lcG (h : XOk X N sc k b) {PT : Cx → Prop} {tg iter elt : Expr} {scope : Scope} {own : List (Str × Nat)} {g : TG} {sd : EnvD → D → Option EnvD} (T : TgOk X scope tg (own.map (·.2)) g sd) (hb : blkC N sc scope own = true)
    (hT : ∀ X' : Cx, X'.prog = X.prog → X'.w = X.w → X'.K = X.K → X'.mg = X.mg → X'.base = X.base → PT X') (J : Nat → MS → List D → Prop)
    (hi : WI X tg iter ρ M fun items Gd M1 => (∀ gs m, Gd (gs ++ m :: M1)) ∧ items.length ≤ 10000000 ∧ J 0 [] [] ∧
      (∀ i d gs acc, items[i]? = some d → J i gs acc → ∃ ρ2, sd (wipeD ρ (own.map (·.2))) d = some ρ2 ∧ ∀ X', Blk X N sc scope k PT X' → ∀ p, WE X' elt ρ2 (gs ++ (p, .lst acc) :: M1) fun e M3 => ∃ gs', M3 = gs' ++ (p, .lst acc) :: M1 ∧ J (i + 1) gs' (acc ++ [e])) ∧
      ∀ p gs acc, J items.length gs acc → Q (.ref p) (gs ++ (p, .lst acc) :: M1)) (hs : ∀ x, foldedSetIterable iter X.env x = pure x := by intro _; rfl) : WE X (.ListComp elt [⟨tg, iter, [], 0⟩] scope pos) ρ M Q := fun σ H a Qv l => by
  refine wp_pe (pe_lc (te := fun σ H Q => ∀ s H0 C cl fp, wpE (X.blk s H0 scope (compEnvC scope cl C X.env) fp) elt σ H Q) (tt := fun σ H Q => Q true H)
    h.calm (by rw [h.n]; exact h.nd) pi_wp (blk_of h hb) T.pg (fun s H C cl fp => pts_nil) (fun s H C cl fp => ⟨fun pins s' σ H Q I q => pe_wp.run pins s' σ H Q I (q s _ C cl fp)⟩) hs) ?_
  refine hi σ H a _ fun I H1 items Gd M1 ⟨gd, z, j0, turn, q⟩ m1 f1 ok P hP => ?_
  have blk : ∀ s H0 C cl fp, Blk X N sc scope k PT (X.blk s H0 scope (compEnvC scope cl C X.env) fp) := fun s H0 C cl fp => by
    refine ⟨⟨h.n, h.nd, (blkOk_by hb).kind, h.calm, h.room, (fun e => by cases e), PassesOwn.never, ?_⟩, hT (X.blk s H0 scope (compEnvC scope cl C X.env) fp) rfl rfl rfl rfl rfl, rfl⟩
    show relS scope X.env.scope = _
    rw [h.scp]
  refine ⟨fun i n H' => n = items.length - i ∧ i ≤ items.length ∧ ∃ gs acc, acc.length = i ∧ J i gs acc ∧ MSt (gx X) (gs ++ (P, .lst acc) :: M1) H' ∧ Fx M1 H1 (gs ++ (P, .lst acc) :: M1) H', ⟨_, rfl, Nat.zero_le _, [], [], rfl, j0, m1.new hP ⟨[], rfl, .nil⟩, hid_new hP⟩, ?_⟩
  rintro i n H' ⟨rfl, hle, gs, acc, hl, j, m', f'⟩
  by_cases hlt : i < items.length
  · have e : items[i]? = some items[i] := List.getElem?_eq_getElem hlt
    refine .inr ⟨ok.go i _ H' _ f' m' (gd _ _) e, fun H3 => ∃ gs acc, acc.length = i + 1 ∧ J (i + 1) gs acc ∧ MSt (gx X) (gs ++ (P, .lst acc) :: M1) H3 ∧ Fx M1 H1 (gs ++ (P, .lst acc) :: M1) H3, fun H3 ⟨gs3, acc3, l3, j3, m3, f3⟩ => ⟨items.length - (i + 1), by omega, rfl, hlt, gs3, acc3, l3, j3, m3, f3⟩, fun x H2 y => ?_⟩
    obtain ⟨ex, rx⟩ := ok.yl i _ H' x H2 _ f' m' (gd _ _) e y
    obtain ⟨ρ2, es, ev⟩ := turn i _ gs acc e j
    have m2 := m'.ex ex
    have f2 : Fx M1 H1 (gs ++ (P, .lst acc) :: M1) H2 := Ex.trans f' (hid_mono ex)
    refine T.rd ρ ρ2 _ σ H2 x _ _ (at_wipe (a.step m2 (Ex.trans f1 f2))) rx es fun σ2 ew a2 => ⟨ew, ?_⟩
    show (if true = true then _ else _)
    rw [if_pos rfl]
    intro s H0 C cl fp
    have B := blk s H0 C cl fp
    refine ev _ B P σ2 H2 (by rw [B.2.2]; exact a2) _ fun y d4 M4 H4 ⟨gs4, e4, j4⟩ m4 f4 r4 => ?_
    subst e4
    rw [B.2.2] at m4 r4
    obtain ⟨o, h4, us, eo, ra⟩ := m4.at (k := gs4.length) (get_mid _ _ _)
    subst eo
    have hz : us.length < sizeLine := by
      have h1 : us.length = acc.length := ra.len
      rw [sizeLine_eq]
      omega
    refine ⟨us, h4, hz, gs4, acc ++ [d4], by simp [hl], j4, ?_⟩
    have c := m4.upd (k := gs4.length) (mo' := .lst (acc ++ [d4])) (o := .lst (us ++ [y])) (get_mid _ _ _) ⟨_, rfl, ra.app (.cons r4 .nil)⟩
    have ea := adr_set (mo' := .lst (acc ++ [d4])) (get_mid gs4 M1 (P, MO.lst acc))
    rw [set_mid] at c ea
    refine ⟨c, Ex.trans f2 (Ex.trans f4 ?_)⟩
    show Ex (hid (adr (gs4 ++ (P, .lst acc) :: M1)) H4) (hid (adr (gs4 ++ (P, .lst (acc ++ [d4])) :: M1)) (upd H4 P _))
    rw [ea, hid_upd (mem_adr (get_mid _ _ _))]
    exact Ex.refl _
  · have e : i = items.length := by omega
    subst e
    refine .inl ⟨ok.st _ H' f' m' (gd _ _), ?_⟩
    exact l _ _ _ _ (q P gs acc j) m' (Ex.trans f1 f') (.ref P)
/-! ### several names on the left of a tuple display -/
theorem XOk.sw0 (h : XOk X N sc k b) {ts : List Expr} {e : Expr} {r : Sem (Option (List Str))} (q : ∀ E : Env, E.scope = sc → swappedStores ts e E = r) : swappedStores ts e X.env = r := q X.env h.scp
end
end DL

set_option maxHeartbeats 4000000
/-! DL: what the head gives; defs by their place; forms of calls. -/
namespace DL
open PySem PySem.Spec PyProof.Rows L2 Evl

/-- what is known of the module -/
structure Bs (X : Cx) : Prop where
  c : He.SaysD TH.fa TH.fn X.K
  ex : TH.exB X.K = true
  h : ∃ h : Heap, X.K.In h ∧ h.Ns mainGlobals X.mg
section
variable {X : Cx}
theorem Bs.free (B : Bs X) {x : Str} (g : Nat) (hg : TH.fa[g]? = some (.free x)) : X.mg x = none := by
  obtain ⟨h, I, G⟩ := B.h
  exact He.free_ok I G (B.c.fact g hg)
theorem Bs.num (B : Bs X) {x : Str} {i : Int} (g : Nat) (hg : TH.fa[g]? = some (.int x i)) : ∃ t, X.mg x = some (.int i t) := by
  obtain ⟨h, I, G⟩ := B.h
  exact He.int_ok I G (B.c.fact g hg)
theorem Bs.exA (B : Bs X) : TH.exA X.K = true := (Bool.and_eq_true_iff.mp (show (TH.exA X.K && TH.exC X.K) = true from B.ex)).1
theorem Bs.exC (B : Bs X) : TH.exC X.K = true := (Bool.and_eq_true_iff.mp (show (TH.exA X.K && TH.exC X.K) = true from B.ex)).2
theorem Bs.same {Y : Cx} (B : Bs X) (h1 : Y.K = X.K) (h2 : Y.mg = X.mg) : Bs Y := ⟨by rw [h1]; exact B.c, by rw [h1]; exact B.ex, by rw [h1, h2]; exact B.h⟩
theorem Bs.toT (B : Bs X) : ∀ X' : Cx, X'.prog = X.prog → X'.w = X.w → X'.K = X.K → X'.mg = X.mg → X'.base = X.base → Bs X' := fun _ _ _ h1 h2 _ => B.same h1 h2
theorem def_by (B : Bs X) {x : Str} (j i g : Nat) {N ps : List Str} {k : Nat} {s : SpD} (hf : TH.fn[i]? = some (TH.dD x j)) (hg : TH.fa[g]? = some (.glo x)) (S : FnScope N ps (defScope (TH.top j)))
    (hb : ∀ (kV doc pm : Value) (an : Option Addr) (cdv ct : Value) (us : List Value), us.length = ps.length → bindArgs (PySem.W.fnOf x x (defArgs (TH.top j)) (defBody (TH.top j)) (defScope (TH.top j)) .none kV doc pm an cdv ct) ⟨us, []⟩ = pure (ps.zip us))
    (len : ∀ ds M Q, s ds M Q → ds.length = ps.length)
    (hbody : ∀ X' : Cx, XOk X' N (defScope (TH.top j)) k true → Bs X' → ∀ ds M QD, s ds M QD → WSs X' (defBody (TH.top j)) (startD N ds) M { nx := fun _ M' => Rtn QD .non M', rt := Rtn QD }) : Dn X x (k + 1) ps s := by
  obtain ⟨fd, F⟩ := B.c.def_ i hf
  have F' : FunD X.K x x (defArgs (TH.top j)) (defBody (TH.top j)) (defScope (TH.top j)) [] [] (He.ga X.K x) fd := F
  have hm : X.mg x = some (.ref (He.ga X.K x)) := by
    obtain ⟨h, I, G⟩ := B.h
    exact He.glo_ok I G (B.c.fact g hg)
  exact def_ok F' S hm (F'.bindsN hb) B.toT len hbody
theorem Bs.f_isinstance (B : Bs X) : X.mg "isinstance" = none := B.free 78 rfl
theorem Bs.f_int (B : Bs X) : X.mg "int" = none := B.free 79 rfl
theorem Bs.f_bool (B : Bs X) : X.mg "bool" = none := B.free 80 rfl
theorem Bs.f_len (B : Bs X) : X.mg "len" = none := B.free 81 rfl
theorem Bs.f_tuple (B : Bs X) : X.mg "tuple" = none := B.free 82 rfl
theorem Bs.f_list (B : Bs X) : X.mg "list" = none := B.free 83 rfl
theorem Bs.f_all (B : Bs X) : X.mg "all" = none := B.free 84 rfl
theorem Bs.f_range (B : Bs X) : X.mg "range" = none := B.free 85 rfl
theorem Bs.f_enumerate (B : Bs X) : X.mg "enumerate" = none := B.free 86 rfl
theorem Bs.f_dict (B : Bs X) : X.mg "dict" = none := B.free 87 rfl
theorem Bs.f_sorted (B : Bs X) : X.mg "sorted" = none := B.free 88 rfl
theorem Bs.f_zip (B : Bs X) : X.mg "zip" = none := B.free 89 rfl
theorem Bs.f_sum (B : Bs X) : X.mg "sum" = none := B.free 90 rfl
theorem Bs.f_abs (B : Bs X) : X.mg "abs" = none := B.free 91 rfl
theorem Bs.f_set (B : Bs X) : X.mg "set" = none := B.free 92 rfl
theorem Bs.f_min (B : Bs X) : X.mg "min" = none := B.free 93 rfl
theorem Bs.f_max (B : Bs X) : X.mg "max" = none := B.free 94 rfl
theorem Bs.f_str (B : Bs X) : X.mg "str" = none := B.free 95 rfl
theorem Bs.f_ValueError (B : Bs X) : X.mg "ValueError" = none := B.free 96 rfl
theorem Bs.f_EAST (B : Bs X) : ∃ t, X.mg "EAST" = some (.int 1 t) := B.num 97 rfl
theorem Bs.f_SOUTH (B : Bs X) : ∃ t, X.mg "SOUTH" = some (.int 2 t) := B.num 98 rfl
theorem Bs.f_WEST (B : Bs X) : ∃ t, X.mg "WEST" = some (.int 3 t) := B.num 99 rfl
theorem Bs.f_NORTH (B : Bs X) : ∃ t, X.mg "NORTH" = some (.int 4 t) := B.num 100 rfl
end
section
variable {X : Cx} {N : List Str} {sc : Scope} {k : Nat} {b : Bool} {ρ : EnvD} {M M1 M2 M' : MS} {pos : Pos} {Q : D → MS → Prop} {E : DEnds}
theorem de_num (h : XOk X N sc k b) {x : Str} {i : Int} (hg : glB sc x = true) (hm : ∃ t, X.mg x = some (.int i t)) (h1 : (x == ("__debug__" : Str)) = false := by decide +kernel) : DE X (.Name x pos) ρ M (.int i) M := by
  obtain ⟨t, hm⟩ := hm
  exact de_glob h hg hm (v := .int i) ⟨t, rfl⟩ (fun _ => .int i) h1
/-! ### isinstance -/
def isIntD : D → Bool
  | .int _ => true
  | .bl _ => true
  | _ => false
def isBlD : D → Bool
  | .bl _ => true
  | _ => false
def isTupD : D → Bool
  | .tup _ => true
  | .tupN _ => true
  | _ => false
def isLstD : D → Bool
  | .lst _ => true
  | _ => false
def isStrD : D → Bool
  | .str _ => true
  | _ => false
def hasT (d : D) : Bool := (tyD d).isSome
theorem wc_isI {d : D} (e : hasT d = true) (q : Q (.bl (isIntD d)) M) : WC X (.builtin "isinstance") [d, .ty "int"] M Q := by
  cases d <;> first | exact wc_isi (c := true) rfl (by decide +kernel) q | exact wc_isi (c := false) rfl (by decide +kernel) q | (simp [hasT, tyD] at e; done)
theorem wc_isB {d : D} (e : hasT d = true) (q : Q (.bl (isBlD d)) M) : WC X (.builtin "isinstance") [d, .ty "bool"] M Q := by
  cases d <;> first | exact wc_isi (c := true) rfl (by decide +kernel) q | exact wc_isi (c := false) rfl (by decide +kernel) q | (simp [hasT, tyD] at e; done)
theorem wc_isT {d : D} (e : hasT d = true) (q : Q (.bl (isTupD d)) M) : WC X (.builtin "isinstance") [d, .ty "tuple"] M Q := by
  cases d <;> first | exact wc_isi (c := true) rfl (by decide +kernel) q | exact wc_isi (c := false) rfl (by decide +kernel) q | (simp [hasT, tyD] at e; done)
theorem wc_isL {d : D} (e : hasT d = true) (q : Q (.bl (isLstD d)) M) : WC X (.builtin "isinstance") [d, .ty "list"] M Q := by
  cases d <;> first | exact wc_isi (c := true) rfl (by decide +kernel) q | exact wc_isi (c := false) rfl (by decide +kernel) q | (simp [hasT, tyD] at e; done)
theorem wc_isLT {d : D} (e : hasT d = true) (q : Q (.bl (isLstD d || isTupD d)) M) : WC X (.builtin "isinstance") [d, .tup [.ty "list", .ty "tuple"]] M Q := by
  cases d <;> first | exact wc_isiT (c1 := true) (c2 := false) rfl (by decide +kernel) (by decide +kernel) q | exact wc_isiT (c1 := false) (c2 := true) rfl (by decide +kernel) (by decide +kernel) q | exact wc_isiT (c1 := false) (c2 := false) rfl (by decide +kernel) (by decide +kernel) q | (simp [hasT, tyD] at e; done)
theorem wc_isBS {d : D} (e : hasT d = true) (q : Q (.bl (isBlD d || isStrD d)) M) : WC X (.builtin "isinstance") [d, .tup [.ty "bool", .ty "str"]] M Q := by
  cases d <;> first | exact wc_isiT (c1 := true) (c2 := false) rfl (by decide +kernel) (by decide +kernel) q | exact wc_isiT (c1 := false) (c2 := true) rfl (by decide +kernel) (by decide +kernel) q | exact wc_isiT (c1 := false) (c2 := false) rfl (by decide +kernel) (by decide +kernel) q | (simp [hasT, tyD] at e; done)
/-! ### calls of builtins, forward -/
theorem de_callB (h : XOk X N sc k b) {x : Str} {id : String} {p : Pos} {e : Expr} {es : List Expr} {ds : List D} {d : D} (hg : glB sc x = true) (hm : X.mg x = none) (hv : bootBuiltins x = some (.builtin id)) (ha : DA X (e :: es) ρ M ds M1) (q : WC X (.builtin id) ds M1 fun d' M2 => d' = d ∧ M2 = M') (hn : notMain x = true := by decide +kernel)
    (he : starEach (e :: es) X.env = (false, eval e X.env) :: starEach es X.env := by rfl) (hpl : (backTo pos (starEach es X.env)).any (·.1) = false := by rfl) : DE X (.Call (.Name x p) (e :: es) [] pos) ρ M d M' := we_callB h hg hm hv (ha.to q) hn he hpl
theorem de_callTy (h : XOk X N sc k b) {x : Str} {T : String} {p : Pos} {e : Expr} {es : List Expr} {ds : List D} {d : D} (hg : glB sc x = true) (hm : X.mg x = none) (hv : bootBuiltins x = some (.type T)) (ha : DA X (e :: es) ρ M ds M1) (q : WC X (.type T) ds M1 fun d' M2 => d' = d ∧ M2 = M') (hn : notMain x = true := by decide +kernel)
    (he : starEach (e :: es) X.env = (false, eval e X.env) :: starEach es X.env := by rfl) (hpl : (backTo pos (starEach es X.env)).any (·.1) = false := by rfl) : DE X (.Call (.Name x p) (e :: es) [] pos) ρ M d M' := we_callTy h hg hm hv (ha.to q) hn he hpl
theorem do_callB (h : XOk X N sc k b) {x : Str} {id : String} {p : Pos} {e : Expr} {es : List Expr} {ds : List D} {mo : MO} (hg : glB sc x = true) (hm : X.mg x = none) (hv : bootBuiltins x = some (.builtin id)) (ha : DA X (e :: es) ρ M ds M1) (q : WC X (.builtin id) ds M1 fun d' M2 => ∃ p, d' = .ref p ∧ M2 = (p, mo) :: M') (hn : notMain x = true := by decide +kernel)
    (he : starEach (e :: es) X.env = (false, eval e X.env) :: starEach es X.env := by rfl) (hpl : (backTo pos (starEach es X.env)).any (·.1) = false := by rfl) : DO X (.Call (.Name x p) (e :: es) [] pos) ρ M mo M' := we_callB h hg hm hv (ha.to q) hn he hpl
theorem do_callTy (h : XOk X N sc k b) {x : Str} {T : String} {p : Pos} {e : Expr} {es : List Expr} {ds : List D} {mo : MO} (hg : glB sc x = true) (hm : X.mg x = none) (hv : bootBuiltins x = some (.type T)) (ha : DA X (e :: es) ρ M ds M1) (q : WC X (.type T) ds M1 fun d' M2 => ∃ p, d' = .ref p ∧ M2 = (p, mo) :: M') (hn : notMain x = true := by decide +kernel)
    (he : starEach (e :: es) X.env = (false, eval e X.env) :: starEach es X.env := by rfl) (hpl : (backTo pos (starEach es X.env)).any (·.1) = false := by rfl) : DO X (.Call (.Name x p) (e :: es) [] pos) ρ M mo M' := we_callTy h hg hm hv (ha.to q) hn he hpl
/-- a comprehension, forward: a new list -/
theorem do_lc (h : XOk X N sc k b) {PT : Cx → Prop} {tg iter elt : Expr} {ifs : List Expr} {scope : Scope} {own : List (Str × Nat)} {g : TG} {sd : EnvD → D → Option EnvD} {items : List D} {Gd : MS → Prop} (f : D → Option D) (T : TgOk X scope tg (own.map (·.2)) g sd) (hb : blkC N sc scope own = true)
    (hT : ∀ X' : Cx, X'.prog = X.prog → X'.w = X.w → X'.K = X.K → X'.mg = X.mg → X'.base = X.base → PT X')
    (hi : WI X tg iter ρ M fun items' Gd' M1' => items' = items ∧ (∀ m, Gd' (m :: M1')) ∧ M1' = M1) (hl : items.length ≤ 10000000)
    (ht : ∀ d, d ∈ items → ∃ ρ2 t, sd (wipeD ρ (own.map (·.2))) d = some ρ2 ∧ (∀ X', Blk X N sc scope k PT X' → ∀ m, WTs X' ifs ρ2 (m :: M1) fun t' M3 => t' = t ∧ M3 = m :: M1) ∧
        (t = true → ∃ e, f d = some e ∧ ∀ X', Blk X N sc scope k PT X' → ∀ m, DE X' elt ρ2 (m :: M1) e (m :: M1)) ∧ (t = false → f d = none))
    (hs : ∀ x, foldedSetIterable iter X.env x = pure x := by intro _; rfl) : DO X (.ListComp elt [⟨tg, iter, ifs, 0⟩] scope pos) ρ M (.lst (items.filterMap f)) M1 :=
  wo_lc h T hb hT f (fun σ H a R' l => hi σ H a R' fun J H1 items' Gd' M1' ⟨e1, e2, e3⟩ m f' ok => l J H1 items' Gd' M1' (by subst e1 e3; exact ⟨e2, hl, ht, fun p => ⟨p, rfl, rfl⟩⟩) m f' ok) hs
end
end DL

set_option maxHeartbeats 4000000
/-! DL: comprehensions over typed lists. -/
namespace DL
open PySem PySem.Spec PyProof.Rows L2 Evl

section
variable {X : Cx} {N : List Str} {sc : Scope} {k : Nat} {b : Bool} {ρ : EnvD} {M M1 M2 M' : MS} {pos : Pos} {Q : D → MS → Prop} {E : DEnds}
theorem lcA_read {α : Type} (l0 : List α) (gd0 : α → D) (cd : α → Bool) (ed : α → D) (h : XOk X N sc k b) {PT : Cx → Prop} {tg iter elt : Expr} {ifs : List Expr} {scope : Scope} {vs : List Nat} {g : TG} {sd : EnvD → D → Option EnvD} (T : TgOk X scope tg vs g sd) (hk : scope.kind = .function)
    (hT : ∀ X' : Cx, X'.prog = X.prog → X'.w = X.w → X'.K = X.K → X'.mg = X.mg → X'.base = X.base → PT X')
    (hi : WI X tg iter ρ M fun items Gd M1 => items = l0.map gd0 ∧ (∀ m, Gd (m :: M1)) ∧ l0.length ≤ 10000000 ∧
      (∀ x, x ∈ l0 → ∃ ρ2, sd (wipeD ρ vs) (gd0 x) = some ρ2 ∧ (∀ X', Blk X N sc scope k PT X' → ∀ m, WTs X' ifs ρ2 (m :: M1) fun t' M3 => t' = cd x ∧ M3 = m :: M1) ∧
        (cd x = true → ∀ X', Blk X N sc scope k PT X' → ∀ m, DE X' elt ρ2 (m :: M1) (ed x) (m :: M1))) ∧
      ∀ p, Q (.ref p) ((p, .lst ((l0.filter cd).map ed)) :: M1))
    {σ : L2.St} {H : Hp} (a : At (gx X) ρ M σ H) {Qv : VK} (l : Lft (gx X) M H Q Qv) :
    tLc (wpI X tg iter) g (fun σ H Q => ∀ s H0 C cl fp, wpTs (X.blk s H0 scope (compEnvC scope cl C X.env) fp) ifs σ H Q) (fun σ H Q => ∀ s H0 C cl fp, wpE (X.blk s H0 scope (compEnvC scope cl C X.env) fp) elt σ H Q) vs σ H Qv := by
  refine hi σ H a _ fun J H1 items Gd M1 ⟨e0, gd, z, turn, q⟩ m1 f1 ok D hD => ?_
  subst e0
  have blk : ∀ s H0 C cl fp, Blk X N sc scope k PT (X.blk s H0 scope (compEnvC scope cl C X.env) fp) := fun s H0 C cl fp => by
    refine ⟨⟨h.n, h.nd, hk, h.calm, h.room, (fun e => by cases e), PassesOwn.never, ?_⟩, hT (X.blk s H0 scope (compEnvC scope cl C X.env) fp) rfl rfl rfl rfl rfl, rfl⟩
    show relS scope X.env.scope = _
    rw [h.scp]
  let acc := fun i : Nat => ((l0.take i).filter cd).map ed
  refine ⟨fun i n H' => n = l0.length - i ∧ i ≤ l0.length ∧ MSt (gx X) ((D, .lst (acc i)) :: M1) H' ∧ Fx M1 H1 ((D, .lst (acc i)) :: M1) H', ⟨_, rfl, Nat.zero_le _, m1.new hD ⟨[], rfl, by simp [acc]; exact .nil⟩, hid_new hD⟩, ?_⟩
  rintro i n H' ⟨rfl, hle, m', f'⟩
  by_cases hlt : i < l0.length
  · have e0 : l0[i]? = some l0[i] := List.getElem?_eq_getElem hlt
    have e : (l0.map gd0)[i]? = some (gd0 l0[i]) := by rw [List.getElem?_map, e0]; rfl
    refine .inr ⟨ok.go i _ H' _ f' m' (gd _) e, fun H3 => MSt (gx X) ((D, .lst (acc (i + 1))) :: M1) H3 ∧ Fx M1 H1 ((D, .lst (acc (i + 1))) :: M1) H3, fun H3 ⟨m3, f3⟩ => ⟨l0.length - (i + 1), by omega, rfl, hlt, m3, f3⟩, fun x H2 y => ?_⟩
    obtain ⟨ex, rx⟩ := ok.yl i _ H' x H2 _ f' m' (gd _) e y
    obtain ⟨ρ2, es, tests, qt⟩ := turn _ (List.getElem_mem hlt)
    have m2 := m'.ex ex
    have f2 : Fx M1 H1 ((D, .lst (acc i)) :: M1) H2 := Ex.trans f' (hid_mono ex)
    have ea : acc (i + 1) = acc i ++ (if cd l0[i] = true then [ed l0[i]] else []) := by
      show ((l0.take (i + 1)).filter cd).map ed = ((l0.take i).filter cd).map ed ++ _
      rw [List.take_succ, e0, List.filter_append, List.map_append]
      by_cases q : cd l0[i] = true
      · simp [q]
      · simp [q]
    refine T.rd ρ ρ2 _ σ H2 x _ _ (at_wipe (a.step m2 (Ex.trans f1 f2))) rx es fun σ2 ew a2 => ⟨ew, fun s H0 C cl fp => ?_⟩
    have B := blk s H0 C cl fp
    refine wts_wp (tests _ B (D, .lst (acc i))) (by rw [B.2.2]; exact a2) (fun t' M3 H3 ⟨et', e3⟩ m3 f3 => ?_)
    subst e3
    rw [B.2.2] at m3
    cases t' with
    | false =>
      rw [if_neg Bool.false_ne_true]
      have e4 : acc (i + 1) = acc i := by rw [ea, ← et']; simp
      rw [e4]
      exact ⟨m3, Ex.trans f2 f3⟩
    | true =>
      rw [if_pos rfl]
      intro s' H0' C' cl' fp'
      have B' := blk s' H0' C' cl' fp'
      refine qt et'.symm _ B' (D, .lst (acc i)) σ2 H3 (by rw [B'.2.2]; exact a2.step m3 f3) _ fun y d4 M4 H4 ⟨e4, e5⟩ m4 f4 r4 => ?_
      subst e4 e5
      rw [B'.2.2] at m4 r4
      obtain ⟨o, h4, us, eo, ra⟩ := m4.at (k := 0) rfl
      subst eo
      have e6 : acc (i + 1) = acc i ++ [ed l0[i]] := by rw [ea, ← et']; rfl
      have hz : us.length < sizeLine := by
        have h1 : us.length = (acc i).length := ra.len
        have h2 : (acc i).length ≤ (l0.take i).length := by
          show (((l0.take i).filter cd).map ed).length ≤ _
          rw [List.length_map]
          exact List.length_filter_le _ _
        have h3 : (l0.take i).length ≤ l0.length := by rw [List.length_take]; exact Nat.min_le_right _ _
        rw [sizeLine_eq]
        omega
      refine ⟨us, h4, hz, ?_⟩
      have c := m4.upd (k := 0) (mo' := .lst (acc (i + 1))) (o := .lst (us ++ [y])) rfl ⟨_, rfl, by rw [e6]; exact ra.app (.cons r4 .nil)⟩
      refine ⟨c, Ex.trans f2 (Ex.trans f3 (Ex.trans f4 ?_))⟩
      show Ex (hid (D :: adr M1) H4) (hid (D :: adr M1) (upd H4 D _))
      rw [hid_upd (List.mem_cons_self)]
      exact Ex.refl _
  · have e : i = l0.length := by omega
    subst e
    refine .inl ⟨?_, ?_⟩
    · have h9 := ok.st _ H' f' m' (gd _)
      rw [List.length_map] at h9
      exact h9
    have e2 : acc l0.length = (l0.filter cd).map ed := by show ((l0.take l0.length).filter cd).map ed = _; rw [List.take_length]
    rw [e2] at m' f'
    exact l _ _ _ _ (q D) m' (Ex.trans f1 f') (.ref D)
/-- the wish of a comprehension over a typed list -/
def AskA (X : Cx) (N : List Str) (sc scope : Scope) (k : Nat) (tg iter : Expr) (ifs : List Expr) (elt : Expr) (vs : List Nat) (sd : EnvD → D → Option EnvD) (ρ : EnvD) (M M1 : MS) {α : Type} (l0 : List α) (gd0 : α → D) (cd : α → Bool) (ed : α → D) : Prop :=
  WI X tg iter ρ M (fun items Gd M1' => items = l0.map gd0 ∧ (∀ m, Gd (m :: M1')) ∧ M1' = M1) ∧ l0.length ≤ 10000000 ∧
      (∀ x, x ∈ l0 → ∃ ρ2, sd (wipeD ρ vs) (gd0 x) = some ρ2 ∧ (∀ X', Blk X N sc scope k Bs X' → ∀ m, WTs X' ifs ρ2 (m :: M1) fun t' M3 => t' = cd x ∧ M3 = m :: M1) ∧
        (cd x = true → ∀ X', Blk X N sc scope k Bs X' → ∀ m, DE X' elt ρ2 (m :: M1) (ed x) (m :: M1)))
theorem WI.imp {tg iter : Expr} {R R' : List D → (MS → Prop) → MS → Prop} (h : WI X tg iter ρ M R) (q : ∀ a c d, R a c d → R' a c d) : WI X tg iter ρ M R' := fun σ H a r l => h σ H a r fun J H1 i G m z => l J H1 i G m (q _ _ _ z)
theorem do_lcA (h : XOk X N sc k b) (B : Bs X) {tg iter elt : Expr} {ifs : List Expr} {scope : Scope} {g : TG} {sd : EnvD → D → Option EnvD} {α : Type} (l0 : List α) (gd0 : α → D) (cd : α → Bool) (ed : α → D) (own : List (Str × Nat)) (T : TgOk X scope tg (own.map (·.2)) g sd) (hb : blkC N sc scope own = true)
    (A : AskA X N sc scope k tg iter ifs elt (own.map (·.2)) sd ρ M M1 l0 gd0 cd ed) (hs : ∀ x, foldedSetIterable iter X.env x = pure x := by intro _; rfl) : DO X (.ListComp elt [⟨tg, iter, ifs, 0⟩] scope pos) ρ M (.lst ((l0.filter cd).map ed)) M1 := fun σ H a Qv l => by
  refine wp_pe (pe_lc (te := fun σ H Q => ∀ s H0 C cl fp, wpE (X.blk s H0 scope (compEnvC scope cl C X.env) fp) elt σ H Q) (tt := fun σ H Q => ∀ s H0 C cl fp, wpTs (X.blk s H0 scope (compEnvC scope cl C X.env) fp) ifs σ H Q)
    h.calm (by rw [h.n]; exact h.nd) pi_wp (blk_of h hb) T.pg (fun s H C cl fp => ⟨fun pins s' σ H Q I q => pts_wp.run pins s' σ H Q I (q s _ C cl fp)⟩) (fun s H C cl fp => ⟨fun pins s' σ H Q I q => pe_wp.run pins s' σ H Q I (q s _ C cl fp)⟩) hs) ?_
  exact lcA_read l0 gd0 cd ed h T (blkOk_by hb).kind B.toT (A.1.imp fun items Gd M1' ⟨e1, e2, e3⟩ => ⟨e1, e2, A.2.1, by subst e3; exact A.2.2, fun p => ⟨p, rfl, by rw [e3]⟩⟩) a l
/-- y = [..] -/
theorem ws_lcA (h : XOk X N sc k b) (B : Bs X) (i : Nat) {y : Str} {py spos : Pos} {tg iter elt : Expr} {ifs : List Expr} {scope : Scope} {g : TG} {sd : EnvD → D → Option EnvD} {α : Type} (l0 : List α) (gd0 : α → D) (cd : α → Bool) (ed : α → D) (own : List (Str × Nat)) (T : TgOk X scope tg (own.map (·.2)) g sd) (hb : blkC N sc scope own = true)
    (A : AskA X N sc scope k tg iter ifs elt (own.map (·.2)) sd ρ M M1 l0 gd0 cd ed) (q : ∀ p, E.nx (ρ.set i (some (.ref p))) ((p, .lst ((l0.filter cd).map ed)) :: M1))
    (hy : N[i]? = some y := by rfl) (hyl : locB sc y = true := by rfl) (hl : (py.line == pos.line) = true := by rfl) (ha : (scope.names.any fun (n, k) => n == y && (k == .local || k == .cell)) = false := by rfl) (hs : ∀ x, foldedSetIterable iter X.env x = pure x := by intro _; rfl) : WS X (.Assign [.Name y py] (.ListComp elt [⟨tg, iter, ifs, 0⟩] scope pos) spos) ρ M E := fun σ H a D l => by
  refine wp_ps (ps_setLc (i := i) (te := fun σ H Q => ∀ s H0 C cl fp, wpE (X.blk s H0 scope (compEnvC scope cl C X.env) fp) elt σ H Q) (tt := fun σ H Q => ∀ s H0 C cl fp, wpTs (X.blk s H0 scope (compEnvC scope cl C X.env) fp) ifs σ H Q)
    h.calm (by rw [h.n]; exact h.nd) (by rw [h.n]; exact hy) (h.lcl hyl) (sw_true (by rw [h.scp]; exact h.kind) (h.lcl hyl) hl ha) pi_wp (blk_of h hb) T.pg (fun s H C cl fp => ⟨fun pins s' σ H Q I q => pts_wp.run pins s' σ H Q I (q s _ C cl fp)⟩) (fun s H C cl fp => ⟨fun pins s' σ H Q I q => pe_wp.run pins s' σ H Q I (q s _ C cl fp)⟩) hs) ?_
  exact lcA_read (Q := fun d M' => E.nx (ρ.set i (some d)) M') l0 gd0 cd ed h T (blkOk_by hb).kind B.toT (A.1.imp fun items Gd M1' ⟨e1, e2, e3⟩ => ⟨e1, e2, A.2.1, by subst e3; exact A.2.2, by subst e3; exact q⟩) a fun v d M' H' q m f r => l.nx _ M' _ H' q ((a.step m f).set r) f
/-- iteration over a frozen or owned list, or a tuple -/
theorem wi_listE {tg e : Expr} {d : D} {ds : List D} {α : Type} {l0 : List α} {gd0 : α → D} (h : DE X e ρ M d M) (s : SqO M d ds) (s2 : ∀ m, SqO (m :: M) d ds) (q : ds = l0.map gd0) (hs : PI X tg e (iList X.K (wpE X e)) := by exact pi_list pe_wp) : WI X tg e ρ M (fun items Gd M1' => items = l0.map gd0 ∧ (∀ m, Gd (m :: M1')) ∧ M1' = M) := wi_list (h.to ⟨ds, s, q, s2, rfl⟩) hs
theorem wi_lstE {tg e : Expr} {ds : List D} {α : Type} {l0 : List α} {gd0 : α → D} (h : DE X e ρ M (.lst ds) M) (q : ds = l0.map gd0) (hs : PI X tg e (iList X.K (wpE X e)) := by exact pi_list pe_wp) : WI X tg e ρ M (fun items Gd M1' => items = l0.map gd0 ∧ (∀ m, Gd (m :: M1')) ∧ M1' = M) := wi_listE h .lst (fun _ => .lst) q hs
theorem wi_refE {tg e : Expr} {p : Addr} {ds : List D} {α : Type} {l0 : List α} {gd0 : α → D} (kk : Nat) (h : DE X e ρ M (.ref p) M) (hk : M[kk]? = some (p, .lst ds)) (q : ds = l0.map gd0) (hs : PI X tg e (iList X.K (wpE X e)) := by exact pi_list pe_wp) : WI X tg e ρ M (fun items Gd M1' => items = l0.map gd0 ∧ (∀ m, Gd (m :: M1')) ∧ M1' = M) := wi_listE h (.ref kk hk) (fun m => .ref (kk + 1) hk) q hs
theorem wi_tupE {tg e : Expr} {ds : List D} {α : Type} {l0 : List α} {gd0 : α → D} (h : DE X e ρ M (.tup ds) M) (q : ds = l0.map gd0) (hs : PI X tg e (iTup X.K (wpE X e)) := by exact pi_tup pe_wp) : WI X tg e ρ M (fun items Gd M1' => items = l0.map gd0 ∧ (∀ m, Gd (m :: M1')) ∧ M1' = M) := wi_tup (h.to ⟨ds, rfl, q, fun _ => trivial, rfl⟩) hs
theorem wi_rngE (h : XOk X N sc k b) {tg e : Expr} {p : Pos} {n : Int} {l0 : List Nat} (hg : glB sc "range" = true) (hm : X.mg "range" = none) (he : DE X e ρ M (.int n) M) (n1 : -(2 ^ 62) ≤ n) (n2 : n < 2 ^ 62) (q : l0 = List.range n.toNat) (hs : starEach [e] X.env = [(false, eval e X.env)] := by rfl) : WI X tg (.Call (.Name "range" p) [e] [] pos) ρ M (fun items Gd M1' => items = l0.map (fun i => .int (i : Int)) ∧ (∀ m, Gd (m :: M1')) ∧ M1' = M) :=
  wi_rng1 h hg hm (da_cons he da_nil hs |>.to ⟨n, rfl, n1, n2, by subst q; simp [rngD], fun _ => trivial, rfl⟩) hs
theorem filter_tt {α : Type} (l : List α) : l.filter (fun _ => true) = l := List.filter_eq_self.mpr fun _ _ => rfl
/-- the same without a test -/
def AskM (X : Cx) (N : List Str) (sc scope : Scope) (k : Nat) (tg iter elt : Expr) (vs : List Nat) (sd : EnvD → D → Option EnvD) (ρ : EnvD) (M M1 : MS) {α : Type} (l0 : List α) (gd0 : α → D) (ed : α → D) : Prop :=
  WI X tg iter ρ M (fun items Gd M1' => items = l0.map gd0 ∧ (∀ m, Gd (m :: M1')) ∧ M1' = M1) ∧ l0.length ≤ 10000000 ∧
      (∀ x, x ∈ l0 → ∃ ρ2, sd (wipeD ρ vs) (gd0 x) = some ρ2 ∧ ∀ X', Blk X N sc scope k Bs X' → ∀ m, DE X' elt ρ2 (m :: M1) (ed x) (m :: M1))
theorem AskM.a {scope : Scope} {tg iter elt : Expr} {vs : List Nat} {sd : EnvD → D → Option EnvD} {α : Type} {l0 : List α} {gd0 ed : α → D} (A : AskM X N sc scope k tg iter elt vs sd ρ M M1 l0 gd0 ed) : AskA X N sc scope k tg iter [] elt vs sd ρ M M1 l0 gd0 (fun _ => true) ed :=
  ⟨A.1, A.2.1, fun x hx => let ⟨ρ2, h1, h2⟩ := A.2.2 x hx; ⟨ρ2, h1, fun _ _ _ => ⟨rfl, rfl⟩, fun _ => h2⟩⟩
theorem do_lcM (h : XOk X N sc k b) (B : Bs X) {tg iter elt : Expr} {scope : Scope} {g : TG} {sd : EnvD → D → Option EnvD} {α : Type} (l0 : List α) (gd0 : α → D) (ed : α → D) (own : List (Str × Nat)) (T : TgOk X scope tg (own.map (·.2)) g sd) (hb : blkC N sc scope own = true)
    (A : AskM X N sc scope k tg iter elt (own.map (·.2)) sd ρ M M1 l0 gd0 ed) (hs : ∀ x, foldedSetIterable iter X.env x = pure x := by intro _; rfl) : DO X (.ListComp elt [⟨tg, iter, [], 0⟩] scope pos) ρ M (.lst (l0.map ed)) M1 := by
  have := do_lcA (pos := pos) h B l0 gd0 (fun _ => true) ed own T hb A.a hs
  rw [filter_tt] at this
  exact this
theorem ws_lcM (h : XOk X N sc k b) (B : Bs X) (i : Nat) {y : Str} {py spos : Pos} {tg iter elt : Expr} {scope : Scope} {g : TG} {sd : EnvD → D → Option EnvD} {α : Type} (l0 : List α) (gd0 : α → D) (ed : α → D) (own : List (Str × Nat)) (T : TgOk X scope tg (own.map (·.2)) g sd) (hb : blkC N sc scope own = true)
    (A : AskM X N sc scope k tg iter elt (own.map (·.2)) sd ρ M M1 l0 gd0 ed) (q : ∀ p, E.nx (ρ.set i (some (.ref p))) ((p, .lst (l0.map ed)) :: M1))
    (hy : N[i]? = some y := by rfl) (hyl : locB sc y = true := by rfl) (hl : (py.line == pos.line) = true := by rfl) (ha : (scope.names.any fun (n, k) => n == y && (k == .local || k == .cell)) = false := by rfl) (hs : ∀ x, foldedSetIterable iter X.env x = pure x := by intro _; rfl) : WS X (.Assign [.Name y py] (.ListComp elt [⟨tg, iter, [], 0⟩] scope pos) spos) ρ M E :=
  ws_lcA h B i l0 gd0 (fun _ => true) ed own T hb A.a (by rw [filter_tt]; exact q) hy hyl hl ha hs
theorem DE.as {e : Expr} {d d' : D} (h : DE X e ρ M d M') (q : d = d') : DE X e ρ M d' M' := q ▸ h
theorem DT.as {e : Expr} {t u : Bool} (h : DT X e ρ M t M') (q : t = u) : DT X e ρ M u M' := q ▸ h
/-- all([..]) of answers -/
theorem de_all (h : XOk X N sc k b) (B : Bs X) {e : Expr} {p : Pos} {α : Type} {l0 : List α} {c : α → Bool} {mo : MO} (hg : glB sc "all" = true) (he : DO X e ρ M mo M') (q : mo = .lst (l0.map fun x => .bl (c x))) (hs : starEach [e] X.env = (false, eval e X.env) :: starEach [] X.env := by rfl) : DE X (.Call (.Name "all" p) [e] [] pos) ρ M (.bl (l0.all c)) M' := by
  subst q
  refine de_callB h hg B.f_all boot_all (da_cons he.frz da_nil hs) (wc_all (bs := l0.map c) h (by rw [List.map_map]; exact SqO.lst) ⟨?_, rfl⟩) (by decide +kernel) hs (by rfl)
  rw [List.all_map]
  rfl
end
end DL

set_option maxHeartbeats 4000000
/-! dicts as typed things. -/
namespace DL
open PySem PySem.Spec PyProof.Rows L2 Evl

abbrev Pt := Int × Int
abbrev sk (p : Pt) : NK := .tup [.num p.1, .num p.2]
theorem sk_inj {p q : Pt} (h : sk p = sk q) : p = q := by
  simp at h
  exact Prod.ext h.1 h.2
theorem sk_ok (p : Pt) : KOk (sk p) := ⟨⟨_, rfl⟩, by simp [NestedKey.depth, NestedKey.depthAll]⟩
theorem sk_D (p : Pt) : keyD (sk p) = sqD p := by simp [keyD, keyDs]
def spk (l : List Pt) : NK := .tup (l.map sk)
theorem keyDs_map : ∀ ks : List NK, keyDs ks = ks.map keyD
  | [] => by simp [keyDs]
  | k :: ks => by rw [keyDs, keyDs_map ks, List.map_cons]
theorem spk_D (l : List Pt) : keyD (spk l) = .tup (l.map sqD) := by
  rw [spk, keyD, keyDs_map, List.map_map]
  exact congrArg D.tup (List.map_congr_left fun p _ => sk_D p)
theorem spk_inj {l m : List Pt} (h : spk l = spk m) : l = m := by
  have h1 : l.map sk = m.map sk := NestedKey.tup.inj h
  exact List.map_inj_right (f := sk) (fun x y e => sk_inj e) |>.mp h1
theorem depthAll_sk (l : List Pt) : NestedKey.depthAll (l.map sk) ≤ 1 := by
  induction l with
  | nil => simp [NestedKey.depthAll]
  | cons p l ih =>
    simp only [List.map_cons, NestedKey.depthAll]
    have : (sk p).depth = 1 := by simp [NestedKey.depth, NestedKey.depthAll]
    omega
theorem spk_ok (l : List Pt) : KOk (spk l) := ⟨⟨_, rfl⟩, by
  show (NestedKey.tup (l.map sk)).depth ≤ 8
  have := depthAll_sk l
  simp only [NestedKey.depth]
  omega⟩
/-- a tuple of whole numbers -/
def ik (l : List Int) : NK := .tup (l.map .num)
theorem ik_D (l : List Int) : keyD (ik l) = .tup (l.map .int) := by
  rw [ik, keyD, keyDs_map, List.map_map]
  exact congrArg D.tup (List.map_congr_left fun p _ => by simp [keyD])
theorem ik_inj {l m : List Int} (h : ik l = ik m) : l = m := by
  have h1 : l.map NestedKey.num = m.map NestedKey.num := NestedKey.tup.inj h
  exact List.map_inj_right (f := NestedKey.num) (fun x y e => NestedKey.num.inj e) |>.mp h1
theorem depthAll_num (l : List Int) : NestedKey.depthAll (l.map .num) ≤ 1 := by
  induction l with
  | nil => simp [NestedKey.depthAll]
  | cons p l ih =>
    simp only [List.map_cons, NestedKey.depthAll]
    have : (NestedKey.num p).depth = 0 := by simp [NestedKey.depth]
    omega
theorem ik_ok (l : List Int) : KOk (ik l) := ⟨⟨_, rfl⟩, by
  show (NestedKey.tup (l.map .num)).depth ≤ 8
  have := depthAll_num l
  simp only [NestedKey.depth]
  omega⟩
section
variable {κ : Type} [DecidableEq κ]
theorem lk_cons (k k' : κ) (d : D) (l : List (κ × D)) : List.lookup k ((k', d) :: l) = if k = k' then some d else l.lookup k := by
  by_cases e : k = k'
  · subst e; simp [List.lookup]
  · have : (k == k') = false := by simpa using e
    simp [List.lookup, this, e]
theorem lk_rep (k k' : κ) (d : D) : ∀ l : List (κ × D), (l.map fun x => if x.1 = k then (x.1, d) else x).lookup k' = if k' = k then (l.lookup k).map fun _ => d else l.lookup k'
  | [] => by simp [List.lookup]
  | (kx, dx) :: l => by
    have ih := lk_rep k k' d l
    by_cases e : kx = k
    · subst e
      simp only [List.map_cons, if_true, lk_cons, ih]
      by_cases e2 : k' = kx
      · subst e2; simp
      · simp [e2]
    · simp only [List.map_cons, e, if_false, lk_cons, ih]
      by_cases e2 : k' = k
      · subst e2
        have : ¬ k' = kx := fun q => e q.symm
        simp [this]
      · simp [e2]
theorem lk_app (k : κ) : ∀ l m : List (κ × D), (l ++ m).lookup k = (l.lookup k).or (m.lookup k)
  | [], m => by simp [List.lookup]
  | (kx, dx) :: l, m => by
    simp only [List.cons_append, lk_cons, lk_app k l m]
    by_cases e : k = kx
    · simp [e]
    · simp [e]
theorem lk_some (k : κ) : ∀ l : List (κ × D), (l.lookup k).isSome = decide (k ∈ l.map (·.1))
  | [] => by simp
  | (kx, dx) :: l => by
    rw [lk_cons]
    by_cases e : k = kx
    · simp [e]
    · simp [e, lk_some k l]
/-- a typed table -/
theorem lk_map {α : Type} (key : α → κ) (inj : ∀ a b, key a = key b → a = b) (val : α → D) [DecidableEq α] (a : α) : ∀ l : List α, (l.map fun x => (key x, val x)).lookup (key a) = if a ∈ l then some (val a) else none
  | [] => by simp
  | x :: l => by
    rw [List.map_cons, lk_cons, lk_map key inj val a l]
    by_cases e : a = x
    · subst e; simp
    · have : ¬ key a = key x := fun q => e (inj _ _ q)
      simp [this, e]
end
theorem lookup_putN (kvs : List (NK × D)) (k k' : NK) (d : D) : (putN kvs k d).lookup k' = if k' = k then some d else kvs.lookup k' := by
  unfold putN
  split
  · rename_i h
    rw [lk_rep]
    by_cases e : k' = k
    · obtain ⟨x, hx⟩ := Option.isSome_iff_exists.mp h
      rw [if_pos e, if_pos e, hx]; rfl
    · rw [if_neg e, if_neg e]
  · rename_i h
    have hn : kvs.lookup k = none := by
      cases q : kvs.lookup k with
      | none => rfl
      | some x => rw [q] at h; exact absurd rfl h
    rw [lk_app, lk_cons]
    by_cases e : k' = k
    · subst e; simp [hn]
    · simp [e]
theorem lookup_putsN (k : NK) : ∀ (ps kvs : List (NK × D)), (putsN kvs ps).lookup k = (ps.reverse.lookup k).or (kvs.lookup k)
  | [], kvs => by simp [putsN]
  | (kp, dp) :: ps, kvs => by
    have h : putsN kvs ((kp, dp) :: ps) = putsN (putN kvs kp dp) ps := rfl
    rw [h, lookup_putsN k ps, List.reverse_cons, lk_app, lk_cons, lookup_putN, Option.or_assoc]
    by_cases e : k = kp
    · simp [e]
    · simp [e]
theorem keys_putN (kvs : List (NK × D)) (k : NK) (d : D) (x : NK) : x ∈ (putN kvs k d).map (·.1) ↔ x ∈ kvs.map (·.1) ∨ x = k := by
  have h1 := lk_some x (putN kvs k d)
  have h2 := lk_some x kvs
  rw [lookup_putN] at h1
  by_cases e : x = k
  · subst e; simp at h1 ⊢; simpa using h1
  · rw [if_neg e] at h1
    rw [h1] at h2
    simp only [e, or_false]
    exact ⟨fun q => by simpa [q] using h2.symm, fun q => by simpa [q] using h2⟩
theorem putN_new {kvs : List (NK × D)} {k : NK} (d : D) (h : k ∉ kvs.map (·.1)) : putN kvs k d = kvs ++ [(k, d)] := by
  unfold putN
  rw [lk_some, decide_eq_false h]
  simp
theorem putsN_new : ∀ {ps kvs : List (NK × D)}, ((kvs ++ ps).map (·.1)).Nodup → putsN kvs ps = kvs ++ ps
  | [], kvs, _ => by simp [putsN]
  | p :: ps, kvs, h => by
    have h1 : putsN kvs (p :: ps) = putsN (putN kvs p.1 p.2) ps := rfl
    have hn : p.1 ∉ kvs.map (·.1) := fun hm => by
      rw [List.map_append, List.nodup_append] at h
      exact h.2.2 p.1 hm p.1 (by simp) rfl
    rw [h1, putN_new _ hn, putsN_new (by simpa using h)]
    simp
theorem putsN_nodup {ps : List (NK × D)} (h : (ps.map (·.1)).Nodup) : putsN [] ps = ps := putsN_new (kvs := []) (by simpa using h)
/-- the table of a room -/
def tabN {α : Type} (key : α → NK) (val : α → D) (l : List α) : List (NK × D) := l.map fun x => (key x, val x)
theorem tabN_keys {α : Type} {key : α → NK} (inj : ∀ a b, key a = key b → a = b) {val : α → D} {l : List α} (h : l.Nodup) : ((tabN key val l).map (·.1)).Nodup := by
  unfold tabN
  rw [List.map_map]
  exact List.Pairwise.map _ (fun a b (q : a ≠ b) e => q (inj a b e)) h
theorem tabN_puts {α : Type} {key : α → NK} (inj : ∀ a b, key a = key b → a = b) {val : α → D} {l : List α} (h : l.Nodup) : putsN [] (tabN key val l) = tabN key val l := putsN_nodup (tabN_keys inj h)
theorem tabN_at {α : Type} [DecidableEq α] {key : α → NK} (inj : ∀ a b, key a = key b → a = b) {val : α → D} {l : List α} (a : α) : (tabN key val l).lookup (key a) = if a ∈ l then some (val a) else none := lk_map key inj val a l
theorem tabN_put {α : Type} [DecidableEq α] {key : α → NK} (inj : ∀ a b, key a = key b → a = b) {val : α → D} {l : List α} {a : α} (h : a ∈ l) (d : D) : putN (tabN key val l) (key a) d = tabN key (fun x => if x = a then d else val x) l := by
  unfold putN
  rw [tabN_at inj, if_pos h]
  simp only [Option.isSome_some, if_true]
  unfold tabN
  rw [List.map_map]
  refine List.map_congr_left fun x _ => ?_
  simp only [Function.comp]
  by_cases e : x = a
  · subst e; simp
  · have : ¬ key x = key a := fun q => e (inj _ _ q)
    simp [this, e]
/-- what a room's squares are known by -/
def Kn (r : List Pt) (kvs : List (NK × D)) : Prop := ∀ p : Pt, (kvs.lookup (sk p)).isSome = decide (p ∈ r)
end DL

set_option maxHeartbeats 4000000
/-! KINDS and FAR. -/
namespace DL
open PySem PySem.Spec PyProof.Rows L2 Evl

section
variable {X : Cx} {N : List Str} {sc : Scope} {k : Nat} {b : Bool} {ρ : EnvD} {M M1 M2 M' : MS} {pos : Pos} {Q : D → MS → Prop} {E : DEnds}
theorem tupK_sq {K : PySem.W.Frag} {u : Value} {vs : List V} (h : TH.tupK K u vs = true) (z : vs.length ≤ 1000) : ∃ a, u = .ref a ∧ ∀ H, SqT K H a vs := by
  unfold TH.tupK at h
  split at h
  · rename_i a
    refine ⟨a, rfl, fun H => ?_⟩
    split at h
    · rename_i dd its n sl e
      have hv := He.relAll_ok h
      have hl := hv.length
      refine .inr ⟨_, its, _, e, rfl, rfl, ?_, hv⟩
      rw [sizeLine_eq]
      simp only [Array.length_toList] at hl
      omega
    · cases h
  · cases h
theorem glob_mg (B : Bs X) {x : Str} {a : Addr} (h : TH.glob X.K x = .ref a) : X.mg x = some (.ref a) := by
  obtain ⟨hp, I, G⟩ := B.h
  unfold TH.glob at h
  split at h
  · rename_i v e
    rw [h] at e
    exact PySem.W.mg_of I G e
  · cases h
def kindsL : List Int := [0, 1, 2, 3, 4]
def farL : List Pt := [(0, 0), (1, 0), (0, 1), (-1, 0), (0, -1)]
theorem de_KINDS (h : XOk X N sc k b) (B : Bs X) (hg : glB sc "KINDS" = true) : DE X (.Name "KINDS" pos) ρ M (.tup (kindsL.map .int)) M := by
  have hx := B.exA
  unfold TH.exA at hx
  simp only [Bool.and_eq_true] at hx
  obtain ⟨a, e, hs⟩ := tupK_sq hx.1.1 (by simp)
  exact de_glob (u := .ref a) h hg (glob_mg B e) (v := .ref a) rfl fun H => .tup (hs _) (ints_rp kindsL)
theorem far_rp {K : PySem.W.Frag} {G : GX} (hG : G.K = K) {H : Hp} : ∀ {us : List Value} {ps : List Pt}, us.length = ps.length → ((us.zip ps).all fun p => TH.tupK K p.1 [.int p.2.1, .int p.2.2]) = true → ∃ vs, Vals vs us ∧ RpA G H vs (ps.map sqD)
  | [], [], _, _ => ⟨[], .nil, .nil⟩
  | [], _ :: _, h, _ => by simp at h
  | _ :: _, [], h, _ => by simp at h
  | u :: us, p :: ps, h, q => by
    simp only [List.zip_cons_cons, List.all_cons, Bool.and_eq_true] at q
    obtain ⟨vs, h1, h2⟩ := far_rp hG (us := us) (ps := ps) (by simpa using h) q.2
    obtain ⟨a, e, hs⟩ := tupK_sq q.1 (by simp)
    subst e
    exact ⟨.ref a :: vs, .cons rfl h1, .cons (.tup (by rw [hG]; exact hs H) (.cons (.int _) (.cons (.int _) .nil))) h2⟩
theorem de_FAR (h : XOk X N sc k b) (B : Bs X) (hg : glB sc "FAR" = true) : DE X (.Name "FAR" pos) ρ M (.tup (farL.map sqD)) M := by
  have hx := B.exA
  unfold TH.exA at hx
  simp only [Bool.and_eq_true, beq_iff_eq] at hx
  have hl := hx.1.2
  have ha := hx.2
  have : ∃ a, TH.glob X.K "FAR" = .ref a ∧ ∃ o its n, X.K.lookup a = some o ∧ o.cls = .type "tuple" ∧ o.data = .seq its n ∧ TH.itsAt X.K (.ref a) = its.toList := by
    unfold TH.itsAt at hl
    split at hl
    · rename_i a e
      split at hl
      · rename_i dd its n sl e2
        refine ⟨a, e, _, its, _, e2, rfl, rfl, ?_⟩
        unfold TH.itsAt
        simp only [e2]
      · cases hl
    · cases hl
  obtain ⟨a, e, o, its, n, h1, h2, h3, h4⟩ := this
  rw [e, h4] at hl ha
  have hf := fun H => far_rp (G := gx X) (H := H) rfl (us := its.toList) (ps := farL) (by rw [hl]; rfl) ha
  refine de_glob (u := .ref a) h hg (glob_mg B e) (v := .ref a) rfl fun H => ?_
  obtain ⟨vs, h5, h6⟩ := hf H
  refine .tup (.inr ⟨o, its, n, h1, h2, h3, ?_, h5⟩) h6
  have hl' : its.size = 5 := by simpa using hl
  rw [sizeLine_eq]
  omega
end
end DL

set_option maxHeartbeats 4000000
/-! DL: methods forward, loops over typed lists. -/
namespace DL
open PySem PySem.Spec PyProof.Rows L2 Evl

section
variable {X : Cx} {N : List Str} {sc : Scope} {k : Nat} {b : Bool} {ρ : EnvD} {M M1 M2 M' : MS} {pos : Pos} {Q : D → MS → Prop} {E : DEnds} {apos : Pos} {o e e2 : Expr}
/-- what a call of a method with one, with two arguments asks of its trees -/
structure Mt1 (X : Cx) (o : Expr) (name : Str) (apos : Pos) (e : Expr) (cpos : Pos) : Prop where
  hbase : attributeBase o name X.env (eval o X.env) = eval o X.env
  hfew : ((backTo cpos (starEach [e] X.env)).all (fun x => !x.1) && (backToKw cpos (keywordEach [] X.env)).all (fun x => x.1.isSome)
      && decide ([e].length + ([] : List Keyword).length + (if ([] : List Keyword).isEmpty then 0 else 1) < 30)) = true
  hline : (apos.endLine == cpos.line) = true
  hs : starEach [e] X.env = (false, eval e X.env) :: starEach [] X.env
structure Mt2 (X : Cx) (o : Expr) (name : Str) (apos : Pos) (e e2 : Expr) (cpos : Pos) : Prop where
  hbase : attributeBase o name X.env (eval o X.env) = eval o X.env
  hfew : ((backTo cpos (starEach [e, e2] X.env)).all (fun x => !x.1) && (backToKw cpos (keywordEach [] X.env)).all (fun x => x.1.isSome)
      && decide ([e, e2].length + ([] : List Keyword).length + (if ([] : List Keyword).isEmpty then 0 else 1) < 30)) = true
  hline : (apos.endLine == cpos.line) = true
  hs : starEach [e, e2] X.env = (false, eval e X.env) :: starEach [e2] X.env
  hs2 : starEach [e2] X.env = (false, eval e2 X.env) :: starEach [] X.env
  hpl : (backTo cpos (starEach [e2] X.env)).any (·.1) = false
theorem we_bm1 {name : Str} {T id : String} {d1 d : D} (pa : PlainAttrs T) (slot : Slot T name id) (hty : typeOf (.builtin id) = pure (.type "method_descriptor")) (c : Mt1 X o name apos e pos) (ho : DE X o ρ M d1 M) (rc : Rcv X T d1 M) (ha : DE X e ρ M d M) (q : WM X id d1 [d] M Q) : WE X (.Call (.Attribute o name apos) [e] [] pos) ρ M Q :=
  we_bm pa slot hty (ho.to ⟨rc, (da_cons ha da_nil c.hs).to q⟩) c.hbase c.hfew c.hline c.hs (by rfl)
theorem we_bm2 {name : Str} {T id : String} {d1 d d' : D} (pa : PlainAttrs T) (slot : Slot T name id) (hty : typeOf (.builtin id) = pure (.type "method_descriptor")) (c : Mt2 X o name apos e e2 pos) (ho : DE X o ρ M d1 M) (rc : Rcv X T d1 M) (ha : DE X e ρ M d M) (ha2 : DE X e2 ρ M d' M) (q : WM X id d1 [d, d'] M Q) : WE X (.Call (.Attribute o name apos) [e, e2] [] pos) ρ M Q :=
  we_bm pa slot hty (ho.to ⟨rc, (da_cons ha (da_cons ha2 da_nil c.hs2) c.hs).to q⟩) c.hbase c.hfew c.hline c.hs c.hpl
/-- found.append(x) as a statement -/
theorem ws_append {p : Addr} {xs : List D} {d : D} {spos : Pos} (kk : Nat) (ho : DE X o ρ M (.ref p) M) (ha : DE X e ρ M d M) (hk : M[kk]? = some (p, .lst xs)) (z : xs.length < 16000000) (q : E.nx ρ (M.set kk (p, .lst (xs ++ [d])))) (c : Mt1 X o "append" apos e pos := by exact ⟨rfl, rfl, rfl, rfl⟩)
    (hs : swapsWith (.Call (.Attribute o "append" apos) [e] [] pos) none spos.line X.env = pure false := by rfl) : WS X (.Expr (.Call (.Attribute o "append" apos) [e] [] pos) spos) ρ M E :=
  ws_expr (we_bm1 PySem.F.plainAttrs_list PySem.F.slot_list_append PySem.F.type_list_append c ho (rcv_list (.ref kk hk)) ha (wm_append kk hk z q)) hs
theorem ws_extend {p : Addr} {xs ys : List D} {d : D} {spos : Pos} (kk : Nat) (ho : DE X o ρ M (.ref p) M) (ha : DE X e ρ M d M) (hk : M[kk]? = some (p, .lst xs)) (s : SqO M d ys) (z : xs.length + ys.length ≤ 16000000) (q : E.nx ρ (M.set kk (p, .lst (xs ++ ys)))) (c : Mt1 X o "extend" apos e pos := by exact ⟨rfl, rfl, rfl, rfl⟩)
    (hs : swapsWith (.Call (.Attribute o "extend" apos) [e] [] pos) none spos.line X.env = pure false := by rfl) : WS X (.Expr (.Call (.Attribute o "extend" apos) [e] [] pos) spos) ρ M E :=
  ws_expr (we_bm1 PySem.F.plainAttrs_list PySem.F.slot_list_extend PySem.F.type_list_extend c ho (rcv_list (.ref kk hk)) ha (wm_extend kk hk s z q)) hs
theorem ws_update (h : XOk X N sc k b) {p : Addr} {kvs ps : List (NK × D)} {d : D} {spos : Pos} (kk : Nat) (ho : DE X o ρ M (.ref p) M) (ha : DE X e ρ M d M) (hk : M[kk]? = some (p, .dic kvs)) (s : SqO M d (prD ps)) (hn : ∀ p ∈ ps, KOk p.1) (z : kvs.length + ps.length < 10000000) (q : E.nx ρ (M.set kk (p, .dic (putsN kvs ps)))) (c : Mt1 X o "update" apos e pos := by exact ⟨rfl, rfl, rfl, rfl⟩)
    (hs : swapsWith (.Call (.Attribute o "update" apos) [e] [] pos) none spos.line X.env = pure false := by rfl) : WS X (.Expr (.Call (.Attribute o "update" apos) [e] [] pos) spos) ρ M E :=
  ws_expr (we_bm1 PySem.F.plainAttrs_dict PySem.F.slot_dict_update PySem.F.type_dict_update c ho (rcv_dic (.ref kk hk)) ha (wm_update h kk hk s hn z q)) hs
theorem ws_remove (h : XOk X N sc k b) {p : Addr} {ds : List D} {d z : D} {j : Nat} {spos : Pos} (kk : Nat) (ho : DE X o ρ M (.ref p) M) (ha : WE X e ρ M fun d' M1 => d' = d ∧ M1[kk]? = some (p, .lst ds) ∧ E.nx ρ (M1.set kk (p, .lst (ds.eraseIdx j)))) (g1 : datB 60 d = true) (g2 : ∀ e ∈ ds, datB 60 e = true) (hk : M[kk]? = some (p, .lst ds)) (hj : ds[j]? = some z) (hit : eqD z d = true) (hno : ∀ (m : Nat) (z' : D), m < j → ds[m]? = some z' → eqD z' d = false) (c : Mt1 X o "remove" apos e pos := by exact ⟨rfl, rfl, rfl, rfl⟩)
    (hs : swapsWith (.Call (.Attribute o "remove" apos) [e] [] pos) none spos.line X.env = pure false := by rfl) : WS X (.Expr (.Call (.Attribute o "remove" apos) [e] [] pos) spos) ρ M E :=
  ws_expr (we_bm PySem.F.plainAttrs_list PySem.F.slot_list_remove PySem.F.type_list_remove (ho.to ⟨rcv_list (.ref kk hk), wa_cons (ha.imp fun d' M1 ⟨e1, e2, q⟩ => by subst e1; exact wa_nil (wm_remove h kk e2 g1 g2 hj hit hno q)) c.hs⟩) c.hbase c.hfew c.hline c.hs (by rfl)) hs
theorem de_get (h : XOk X N sc k b) {d1 d2 d r : D} {key : NK} {kvs : List (NK × D)} (s : Dc M d1 kvs) (ho : DE X o ρ M d1 M) (ha : DE X e ρ M d2 M) (ha2 : DE X e2 ρ M d M) (hk : KOk key) (ek : d2 = keyD key) (q : (kvs.lookup key).getD d = r) (c : Mt2 X o "get" apos e e2 pos := by exact ⟨rfl, rfl, rfl, rfl, rfl, rfl⟩) : DE X (.Call (.Attribute o "get" apos) [e, e2] [] pos) ρ M r M :=
  we_bm2 PySem.F.plainAttrs_dict PySem.F.slot_dict_get PySem.F.type_dict_get c ho (rcv_dic s) ha ha2 (wm_get h hk ek s ⟨q, rfl⟩)
theorem de_getI (h : XOk X N sc k b) {d1 d r : D} {i : Int} {kvs : List (Int × D)} (s : Di M d1 kvs) (ho : DE X o ρ M d1 M) (ha : DE X e ρ M (.int i) M) (ha2 : DE X e2 ρ M d M) (q : (kvs.lookup i).getD d = r) (c : Mt2 X o "get" apos e e2 pos := by exact ⟨rfl, rfl, rfl, rfl, rfl, rfl⟩) : DE X (.Call (.Attribute o "get" apos) [e, e2] [] pos) ρ M r M :=
  we_bm2 PySem.F.plainAttrs_dict PySem.F.slot_dict_get PySem.F.type_dict_get c ho (rcv_dik s) ha ha2 (wm_getI h s ⟨q, rfl⟩)
theorem de_indexI {d : D} {ns : List Int} {i : Int} {j : Nat} (s : SqO M d (ns.map .int)) (ho : DE X o ρ M d M) (ha : DE X e ρ M (.int i) M) (hj : ns[j]? = some i) (hno : ∀ m, m < j → ns[m]? ≠ some i) (c : Mt1 X o "index" apos e pos := by exact ⟨rfl, rfl, rfl, rfl⟩) : DE X (.Call (.Attribute o "index" apos) [e] [] pos) ρ M (.int j) M :=
  we_bm1 PySem.F.plainAttrs_list PySem.F.slot_list_index PySem.F.type_list_index c ho (rcv_list s) ha (wm_indexI s hj hno ⟨rfl, rfl⟩)
theorem de_indexT (h : XOk X N sc k b) {ds : List D} {d z : D} {j : Nat} (ho : DE X o ρ M (.tupN ds) M) (ha : DE X e ρ M d M) (g1 : datB 60 d = true) (g2 : ∀ e ∈ ds, datB 60 e = true) (hj : ds[j]? = some z) (hit : eqD z d = true) (hno : ∀ (m : Nat) (z' : D), m < j → ds[m]? = some z' → eqD z' d = false) (c : Mt1 X o "index" apos e pos := by exact ⟨rfl, rfl, rfl, rfl⟩) : DE X (.Call (.Attribute o "index" apos) [e] [] pos) ρ M (.int j) M :=
  we_bm1 PySem.F.plainAttrs_tuple PySem.F.slot_tuple_index PySem.F.type_tuple_index c ho rcv_tupN ha (wm_indexT h g1 g2 hj hit hno ⟨rfl, rfl⟩)
theorem we_pop {p : Addr} {xs : List D} {d : D} (kk : Nat) (ho : DE X o ρ M (.ref p) M) (hk : M[kk]? = some (p, .lst (xs ++ [d]))) (q : Q d (M.set kk (p, .lst xs))) (hbase : attributeBase o "pop" X.env (eval o X.env) = eval o X.env := by rfl) (hline : (apos.endLine == pos.line) = true := by rfl) : WE X (.Call (.Attribute o "pop" apos) [] [] pos) ρ M Q :=
  we_bm0 PySem.F.plainAttrs_list PySem.F.slot_list_pop PySem.F.type_list_pop (ho.to ⟨rcv_list (.ref kk hk), wm_pop kk hk q⟩) hbase hline
/-- d[key] -/
theorem de_at (h : XOk X N sc k b) {a c : Expr} {d1 d2 d : D} {key : NK} {kvs : List (NK × D)} (s : Dc M d1 kvs) (h1 : DE X a ρ M d1 M) (h2 : DE X c ρ M d2 M) (hk : KOk key) (ek : d2 = keyD key) (hd : kvs.lookup key = some d) (hs : PlainIx c := by exact fun _ _ => rfl) : DE X (.Subscript a c pos) ρ M d M :=
  we_ixX (h1.to (h2.to (wx_dic h hk ek s hd ⟨rfl, rfl⟩))) hs
/-! ### loops over typed lists -/
theorem ws_forT (h : XOk X N sc k b) {tg iter : Expr} {body : List Stmt} {α : Type} (l0 : List α) (gd0 : α → D) (I : Nat → EnvD → MS → Prop) (hi : WI X tg iter ρ M fun items Gd M1' => items = l0.map gd0 ∧ M1' = M1 ∧ ∀ i ρ' M', I i ρ' M' → Gd M') (h0 : I 0 ρ M1)
    (hb : ∀ i x ρ' M', l0[i]? = some x → I i ρ' M' → WG X tg (gd0 x) ρ' M' fun ρ2 M2 => WSs X body ρ2 M2 { E with nx := I (i + 1), ct := I (i + 1), bk := E.nx }) (he : ∀ ρ' M', I l0.length ρ' M' → E.nx ρ' M')
    (hs : ∀ x, foldedSetIterable iter X.env x = pure x := by intro _; rfl) : WS X (.For tg iter body [] pos) ρ M E :=
  ws_for h (hi.imp fun items Gd M1' ⟨e1, e2, g⟩ => ⟨I, by subst e2; exact h0, g, fun i d ρ' M' e iv => by
    subst e1
    rw [List.getElem?_map] at e
    cases q : l0[i]? with
    | none => rw [q] at e; cases e
    | some x => rw [q] at e; cases e; exact hb i x ρ' M' q iv, fun ρ' M' iv => by subst e1; exact he ρ' M' (by rw [List.length_map] at iv; exact iv)⟩) hs
/-- typed sources that cannot change -/
theorem fi_lst {tg e : Expr} {ds : List D} {α : Type} {l0 : List α} {gd0 : α → D} {I : Nat → EnvD → MS → Prop} (h : DE X e ρ M (.lst ds) M) (q : ds = l0.map gd0) (hs : PI X tg e (iList X.K (wpE X e)) := by exact pi_list pe_wp) : WI X tg e ρ M fun items Gd M1' => items = l0.map gd0 ∧ M1' = M ∧ ∀ i ρ' M', I i ρ' M' → Gd M' := wi_list (h.to ⟨ds, .lst, q, rfl, fun _ _ _ _ => .lst⟩) hs
theorem fi_tup {tg e : Expr} {ds : List D} {α : Type} {l0 : List α} {gd0 : α → D} {I : Nat → EnvD → MS → Prop} (h : DE X e ρ M (.tup ds) M) (q : ds = l0.map gd0) (hs : PI X tg e (iTup X.K (wpE X e)) := by exact pi_tup pe_wp) : WI X tg e ρ M fun items Gd M1' => items = l0.map gd0 ∧ M1' = M ∧ ∀ i ρ' M', I i ρ' M' → Gd M' := wi_tup (h.to ⟨ds, rfl, q, rfl, fun _ _ _ _ => trivial⟩) hs
theorem fi_ref {tg e : Expr} {p : Addr} {ds : List D} {α : Type} {l0 : List α} {gd0 : α → D} {I : Nat → EnvD → MS → Prop} (kk : Nat) (h : DE X e ρ M (.ref p) M) (hk : M[kk]? = some (p, .lst ds)) (q : ds = l0.map gd0) (hI : ∀ i ρ' M', I i ρ' M' → SqO M' (.ref p) ds) (hs : PI X tg e (iList X.K (wpE X e)) := by exact pi_list pe_wp) : WI X tg e ρ M fun items Gd M1' => items = l0.map gd0 ∧ M1' = M ∧ ∀ i ρ' M', I i ρ' M' → Gd M' := wi_list (h.to ⟨ds, .ref kk hk, q, rfl, hI⟩) hs
theorem fi_rng (h : XOk X N sc k b) {tg e : Expr} {p : Pos} {n : Int} {I : Nat → EnvD → MS → Prop} (hg : glB sc "range" = true) (hm : X.mg "range" = none) (he : DE X e ρ M (.int n) M) (n1 : -(2 ^ 62) ≤ n) (n2 : n < 2 ^ 62) (hs : starEach [e] X.env = [(false, eval e X.env)] := by rfl) : WI X tg (.Call (.Name "range" p) [e] [] pos) ρ M fun items Gd M1' => items = (List.range n.toNat).map (fun i => .int (i : Int)) ∧ M1' = M ∧ ∀ i ρ' M', I i ρ' M' → Gd M' :=
  wi_rng1 h hg hm (da_cons he da_nil hs |>.to ⟨n, rfl, n1, n2, by simp [rngD], rfl, fun _ _ _ _ => trivial⟩) hs
theorem take_flat {α β : Type} {l : List α} {i : Nat} {x : α} (f : α → List β) (h : l[i]? = some x) : (l.take (i + 1)).flatMap f = (l.take i).flatMap f ++ f x := by
  rw [List.take_succ, h, List.flatMap_append]
  simp
end
end DL

set_option maxHeartbeats 4000000
/-! walks: plain, rooms. -/
namespace DL
open PySem PySem.Spec PyProof.Rows L2 Evl

section
variable {X : Cx} {N : List Str} {sc : Scope} {k : Nat} {b : Bool} {ρ : EnvD} {M M1 M2 M' : MS} {pos : Pos} {Q : D → MS → Prop} {E : DEnds}
theorem de_chain {a c e : Expr} {op op' : CmpOp} {d1 d2 d3 : D} {t u : Bool} (h1 : DE X a ρ M d1 M) (h2 : DE X c ρ M d2 M) (h3 : DE X e ρ M d3 M) (q1 : WO X (compareOp op) d1 d2 M fun d' M3 => d' = .bl t ∧ M3 = M) (q2 : WO X (compareOp op') d2 d3 M fun d' M3 => d' = .bl u ∧ M3 = M) (hm : lastMarks [op, op'] [c, e] = false := by with_unfolding_all rfl) :
    DE X (.Compare a [op, op'] [c, e] pos) ρ M (.bl (t && u)) M := by
  refine we_chain (h1.to (h2.to fun H v1 v2 m r1 r2 Qv l => q1 H v1 v2 m r1 r2 Qv fun v d M3 H3 ⟨e1, e2⟩ => l v d M3 H3 ⟨t, e1, fun et => ?_, fun et => ?_⟩)) hm
  · subst e2
    exact h3.to fun d2' e3 => by subst e3; exact fun H v1 v2 m r1 r2 Qv l => q2 H v1 v2 m r1 r2 Qv fun v d M3 H3 ⟨e1, e2⟩ => l v d M3 H3 ⟨by rw [e1, et, Bool.true_and], e2⟩
  · exact ⟨by rw [et, Bool.false_and], e2⟩
end
local macro_rules
  | `(tactic| walk_at "op") => `(tactic| first
    | exact wo_add ⟨rfl, rfl⟩ | exact wo_sub ⟨rfl, rfl⟩ | exact wo_lt ⟨rfl, rfl⟩ | exact wo_le ⟨rfl, rfl⟩ | exact wo_gt ⟨rfl, rfl⟩ | exact wo_ge ⟨rfl, rfl⟩
    | exact wo_eqi ⟨rfl, rfl⟩ | exact wo_nei ⟨rfl, rfl⟩ | exact wo_eqb ⟨rfl, rfl⟩ | exact wo_neb ⟨rfl, rfl⟩ | exact wo_isN ⟨rfl, rfl⟩ | exact wo_notN ⟨rfl, rfl⟩)
  | `(tactic| walk_at "sq") => `(tactic| first | exact Sq.tup | exact Sq.lst | exact Sq.tupN | exact Sq.ref _ rfl)
  | `(tactic| walk_at "at") => `(tactic| first | rfl | assumption)
  | `(tactic| walk_at "isi") => `(tactic| first | exact wc_isI (by assumption) ⟨rfl, rfl⟩ | exact wc_isB (by assumption) ⟨rfl, rfl⟩ | exact wc_isT (by assumption) ⟨rfl, rfl⟩ | exact wc_isL (by assumption) ⟨rfl, rfl⟩ | exact wc_isLT (by assumption) ⟨rfl, rfl⟩ | exact wc_isBS (by assumption) ⟨rfl, rfl⟩)
  | `(tactic| walk_at "len") => `(tactic| exact wc_len (by first | exact Sq.tup | exact Sq.lst | exact Sq.tupN | exact Sq.ref _ rfl) ⟨rfl, rfl⟩)
  | `(tactic| walk_at "tuple") => `(tactic| exact wc_tuple (by first | exact Sq.lst | exact Sq.tup | exact Sq.tupN | exact Sq.ref _ rfl) ⟨rfl, rfl⟩)
  | `(tactic| walk_at "all") => `(tactic| exact wc_all (by assumption) (by first | exact SqO.lst | exact SqO.ref _ rfl) ⟨rfl, rfl⟩)

/-- is_number -/
def isNumD (d : D) : Bool := isIntD d && !isBlD d
def s_is_number : SpD := fun ds M Q => ∃ d, ds = [d] ∧ hasT d = true ∧ Q (.bl (isNumD d)) M
theorem ok_is_number {X : Cx} (B : Bs X) : Dn X "is_number" 1 ["thing"] s_is_number := by
  refine def_by B 4 0 0 (k := 0) (N := ["thing"]) rfl rfl ⟨rfl, rfl, rfl, by decide +kernel, rfl, by decide +kernel, by decide +kernel⟩ (fun _ _ _ _ _ _ us hl => match us, hl with | [_], _ => rfl) ?len ?body
  case len => rintro _ _ _ ⟨d, rfl, _⟩; rfl
  case body =>
    rintro X' h B _ M QD ⟨d, rfl, ht, q⟩
    exact wss_one (ws_ret ((de_and (de_callB h rfl B.f_isinstance boot_isinstance (da_cons (de_var h 0 rfl rfl rfl) (da_cons (de_ty h rfl B.f_int boot_int) da_nil)) (by walk_at "isi")) fun c1 => (de_one (de_notV (de_callB h rfl B.f_isinstance boot_isinstance (da_cons (de_var h 0 rfl rfl rfl) (da_cons (de_ty h rfl B.f_bool boot_bool) da_nil)) (by walk_at "isi"))))).to (.now q)))
def inD (lo hi : Int) : D → Bool
  | .int i => decide (lo ≤ i) && decide (i ≤ hi)
  | _ => false
def s_is_within : SpD := fun ds M Q => ∃ d lo hi, ds = [d, .int lo, .int hi] ∧ hasT d = true ∧ Q (.bl (isNumD d && inD lo hi d)) M
local macro_rules
  | `(tactic| walk_at "is_number") => `(tactic| exact ⟨_, rfl, by assumption, rfl, rfl⟩)
theorem ok_is_within {X : Cx} (B : Bs X) : Dn X "is_within" 2 ["thing", "least", "most"] s_is_within := by
  refine def_by B 5 1 1 (k := 1) (N := ["thing", "least", "most"]) rfl rfl ⟨rfl, rfl, rfl, by decide +kernel, rfl, by decide +kernel, by decide +kernel⟩ (fun _ _ _ _ _ _ us hl => match us, hl with | [_, _, _], _ => rfl) ?len ?body
  case len => rintro _ _ _ ⟨d, lo, hi, rfl, _⟩; rfl
  case body =>
    rintro X' h B _ M QD ⟨d, lo, hi, rfl, ht, q⟩
    refine wss_one (ws_ret (DE.to (de_and (de_call h (ok_is_number B) rfl (da_cons (de_var h 0 rfl rfl rfl) da_nil) (by walk_at "is_number")) fun c => ?_) (.now q)))
    cases d <;> first | (simp [isNumD, isIntD, isBlD] at c; done) | exact de_one (de_chain (de_var h 1 rfl rfl rfl) (de_var h 0 rfl rfl rfl) (de_var h 2 rfl rfl rfl) (by walk_at "op") (by walk_at "op"))
def lenD : D → Nat
  | .tup ds => ds.length
  | .tupN ds => ds.length
  | _ => 0
def s_is_long : SpD := fun ds M Q => ∃ d n, ds = [d, .int n] ∧ hasT d = true ∧ Q (.bl (isTupD d && decide ((lenD d : Int) = n))) M
theorem ok_is_long {X : Cx} (B : Bs X) : Dn X "is_long" 1 ["thing", "length"] s_is_long := by
  refine def_by B 6 2 2 (k := 0) (N := ["thing", "length"]) rfl rfl ⟨rfl, rfl, rfl, by decide +kernel, rfl, by decide +kernel, by decide +kernel⟩ (fun _ _ _ _ _ _ us hl => match us, hl with | [_, _], _ => rfl) ?len ?body
  case len => rintro _ _ _ ⟨d, n, rfl, _⟩; rfl
  case body =>
    rintro X' h B _ M QD ⟨d, n, rfl, ht, q⟩
    refine wss_one (ws_ret (DE.to (de_and (de_callB h rfl B.f_isinstance boot_isinstance (da_cons (de_var h 0 rfl rfl rfl) (da_cons (de_ty h rfl B.f_tuple boot_tuple) da_nil)) (by walk_at "isi")) fun c => ?_) (.now q)))
    cases d <;> first | (simp [isTupD] at c; done) | exact de_one (de_cmp (de_callB h rfl B.f_len boot_len (da_cons (de_var h 0 rfl rfl rfl) da_nil) (by walk_at "len")) (de_var h 1 rfl rfl rfl) (by walk_at "op"))
mutual
def tupD : D → D
  | .tup ds => .tup (tupDs ds)
  | .lst ds => .tup (tupDs ds)
  | d => d
def tupDs : List D → List D
  | [] => []
  | d :: ds => tupD d :: tupDs ds
end
theorem tupDs_map : ∀ ds : List D, tupDs ds = ds.map tupD
  | [] => by simp [tupDs]
  | d :: ds => by rw [tupDs, tupDs_map ds, List.map_cons]
/-- plain data that are lists and tuples at most n deep -/
def okD : Nat → D → Bool
  | _, .non => true
  | _, .bl _ => true
  | _, .int _ => true
  | _, .str x => PyData.strOk x
  | n + 1, .tup ds => ds.all (okD n) && decide (ds.length ≤ 1000)
  | n + 1, .lst ds => ds.all (okD n) && decide (ds.length ≤ 1000)
  | _, _ => false
theorem okD_t {n : Nat} {d : D} (h : okD n d = true) : hasT d = true := by
  cases d <;> first | rfl | (cases n <;> simp [okD] at h)
def s_tupled (n : Nat) : SpD := fun ds M Q => ∃ d, ds = [d] ∧ okD n d = true ∧ Q (tupD d) M
local macro_rules
  | `(tactic| walk_at "tupled") => `(tactic| exact ⟨_, rfl, by assumption, rfl, rfl⟩)
theorem tupled_step (n : Nat) (ih : ∀ m, n = m + 1 → ∀ {X : Cx} (B : Bs X), Dn X "tupled" (m + 1) ["value"] (s_tupled m)) {X : Cx} (B : Bs X) : Dn X "tupled" (n + 1) ["value"] (s_tupled n) := by
  refine def_by B 7 3 3 (k := n) (N := ["value", "own"]) rfl rfl ⟨rfl, rfl, rfl, by decide +kernel, rfl, by decide +kernel, by decide +kernel⟩ (fun _ _ _ _ _ _ us hl => match us, hl with | [_], _ => rfl) ?len ?body
  case len => rintro _ _ _ ⟨d, rfl, _⟩; rfl
  case body =>
    rintro X' h B _ M QD ⟨d, rfl, ho, q⟩
    have ht := okD_t ho
    refine wss_one (ws_ret (we_ifE (DT.to (dt_val (de_callB h rfl B.f_isinstance boot_isinstance (da_cons (de_var h 0 rfl rfl rfl) (da_cons (de_tup (da_cons (de_ty h rfl B.f_list boot_list) (da_cons (de_ty h rfl B.f_tuple boot_tuple) da_nil))) da_nil)) (by walk_at "isi"))) ⟨fun c => ?_, fun c => ?_⟩)))
    · cases n with
      | zero => cases d <;> simp [okD, isLstD, isTupD] at ho c
      | succ n =>
        cases d with
        | lst ds =>
          simp only [okD, Bool.and_eq_true, List.all_eq_true, decide_eq_true_eq] at ho
          refine DE.to (d := tupD (.lst ds)) (de_callTy h rfl B.f_tuple boot_tuple (da_cons (DO.frz (do_lcM h B ds id tupD [("own", 1)] (tg_name h 1 rfl rfl (by simp)) rfl
            ⟨wi_lstE (de_var h 0 rfl rfl rfl) (by simp), by omega, fun x hx => ⟨_, rfl, fun X' ⟨h, B, _⟩ m => ?_⟩⟩)) da_nil) (wc_tuple .lst ⟨by simp [tupD, tupDs_map], rfl⟩)) (.now q)
          have hx' := ho.1 x hx
          exact de_call h (ih n rfl B) rfl (da_cons (de_var h 1 rfl rfl rfl) da_nil) ⟨_, rfl, hx', rfl, rfl⟩ (by omega)
        | tup ds =>
          simp only [okD, Bool.and_eq_true, List.all_eq_true, decide_eq_true_eq] at ho
          refine DE.to (d := tupD (.tup ds)) (de_callTy h rfl B.f_tuple boot_tuple (da_cons (DO.frz (do_lcM h B ds id tupD [("own", 1)] (tg_name h 1 rfl rfl (by simp)) rfl
            ⟨wi_tupE (de_var h 0 rfl rfl rfl) (by simp), by omega, fun x hx => ⟨_, rfl, fun X' ⟨h, B, _⟩ m => ?_⟩⟩)) da_nil) (wc_tuple .lst ⟨by simp [tupD, tupDs_map], rfl⟩)) (.now q)
          have hx' := ho.1 x hx
          exact de_call h (ih n rfl B) rfl (da_cons (de_var h 1 rfl rfl rfl) da_nil) ⟨_, rfl, hx', rfl, rfl⟩ (by omega)
        | _ => simp [okD, isLstD, isTupD] at ho c
    · refine (de_var h 0 rfl rfl rfl).to (.now ?_)
      have e : tupD d = d := by cases d <;> simp [tupD, isLstD, isTupD] at c ⊢
      rw [e] at q
      exact q
theorem ok_tupled (n : Nat) : ∀ {X : Cx} (B : Bs X), Dn X "tupled" (n + 1) ["value"] (s_tupled n) := by
  induction n with
  | zero => exact tupled_step 0 fun m e => nomatch e
  | succ n ih => exact tupled_step (n + 1) fun m e => by cases e; exact ih

def ltP' (p q : Pt) : Prop := p.1 < q.1 ∨ (p.1 = q.1 ∧ p.2 < q.2)
abbrev roomD (r : List Pt) : D := .tup (r.map sqD)
/-- a room as the law lays it -/
structure Rm (r : List Pt) : Prop where
  ne : r ≠ []
  nn : ∀ p ∈ r, 0 ≤ p.1 ∧ 0 ≤ p.2
  asc : r.Pairwise ltP'
  len : r.length ≤ 16
theorem sq_lt (p q : Pt) : PySem.W.dataLt (toPy (sqD p)) (toPy (sqD q)) = decide (p.1 < q.1 ∨ (p.1 = q.1 ∧ p.2 < q.2)) := by
  simp only [toPy, toPys]
  exact PySem.W.dataLt_ii _ _ _ _
theorem atI_nat' {α : Type} {xs : List α} {j : Nat} {v : α} (h : xs[j]? = some v) : L2.atI xs (j : Int) = some v := L2.atI_nat h
def s_ascends : SpD := fun ds M Q => ∃ r : List Pt, ds = [roomD r] ∧ r.Pairwise ltP' ∧ r.length ≤ 1000 ∧ Q (.bl true) M
theorem ok_ascends {X : Cx} (B : Bs X) : Dn X "ascends" 1 ["row"] s_ascends := by
  refine def_by B 8 4 4 (k := 0) (N := ["row", "k"]) rfl rfl ⟨rfl, rfl, rfl, by decide +kernel, rfl, by decide +kernel, by decide +kernel⟩ (fun _ _ _ _ _ _ us hl => match us, hl with | [_], _ => rfl) ?len ?body
  case len => rintro _ _ _ ⟨r, rfl, _⟩; rfl
  case body =>
    rintro X' h B _ M QD ⟨r, rfl, ha, hl, q⟩
    have e : (List.range ((r.length : Int) - 1).toNat).all (fun k => decide ((r.getD k (0, 0)).1 < (r.getD (k + 1) (0, 0)).1 ∨ ((r.getD k (0, 0)).1 = (r.getD (k + 1) (0, 0)).1 ∧ (r.getD k (0, 0)).2 < (r.getD (k + 1) (0, 0)).2))) = true := by
      rw [List.all_eq_true]
      intro k hk
      have hk := List.mem_range.mp hk
      have h1 : k < r.length := by omega
      have h2 : k + 1 < r.length := by omega
      rw [List.getD_eq_getElem?_getD, List.getD_eq_getElem?_getD, List.getElem?_eq_getElem h1, List.getElem?_eq_getElem h2]
      exact decide_eq_true (List.pairwise_iff_getElem.mp ha k (k + 1) h1 h2 (by omega))
    rw [← e] at q
    refine wss_one (ws_ret (DE.to (de_all h B (l0 := List.range ((r.length : Int) - 1).toNat) rfl (do_lcM h B (List.range ((r.length : Int) - 1).toNat) (fun i => .int (i : Int)) _ [("k", 1)] (tg_name h 1 rfl rfl (by simp)) rfl
      ⟨wi_rngE h rfl B.f_range (DE.as (de_bin (de_callB h rfl B.f_len boot_len (da_cons (de_var h 0 rfl rfl rfl) da_nil) (by walk_at "len")) de_int (by walk_at "op")) (by simp)) (by omega) (by omega) rfl, by simp; omega, fun x hx => ⟨_, rfl, fun X' ⟨h, B, _⟩ m => ?_⟩⟩) rfl) (.now q)))
    have hk := List.mem_range.mp hx
    have h1 : x < r.length := by omega
    have h2 : x + 1 < r.length := by omega
    have g1 : L2.atI (r.map sqD) (x : Int) = some (sqD (r.getD x (0, 0))) := L2.atI_nat (by rw [List.getElem?_map, List.getD_eq_getElem?_getD, List.getElem?_eq_getElem h1]; rfl)
    have g2 : L2.atI (r.map sqD) ((x : Int) + 1) = some (sqD (r.getD (x + 1) (0, 0))) := L2.atI_nat (j := x + 1) (by rw [List.getElem?_map, List.getD_eq_getElem?_getD, List.getElem?_eq_getElem h2]; rfl)
    exact de_cmp (de_ix (de_var h 0 rfl rfl rfl) (de_var h 1 rfl rfl rfl) .tup g1) (de_ix (de_var h 0 rfl rfl rfl) (de_bin (de_var h 1 rfl rfl rfl) de_int (by walk_at "op")) .tup g2) (wo_ltD h rfl rfl (by simp [toPy, toPys, PySem.W.alike, PySem.W.alikeAll]) (by simp [toPy]) ⟨by rw [sq_lt], rfl⟩)
def s_are_numbers : SpD := fun ds M Q => ∃ p : Pt, ds = [sqD p] ∧ Q (.bl true) M
theorem ok_are_numbers {X : Cx} (B : Bs X) : Dn X "are_numbers" 2 ["thing"] s_are_numbers := by
  refine def_by B 9 5 5 (k := 1) (N := ["thing", "own"]) rfl rfl ⟨rfl, rfl, rfl, by decide +kernel, rfl, by decide +kernel, by decide +kernel⟩ (fun _ _ _ _ _ _ us hl => match us, hl with | [_], _ => rfl) ?len ?body
  case len => rintro _ _ _ ⟨r, rfl, _⟩; rfl
  case body =>
    rintro X' h B _ M QD ⟨p, rfl, q⟩
    have ht : hasT (sqD p) = true := rfl
    refine wss_one (ws_ret (DE.to (d := .bl true) (DE.as (de_and (de_callB h rfl B.f_isinstance boot_isinstance (da_cons (de_var h 0 rfl rfl rfl) (da_cons (de_ty h rfl B.f_tuple boot_tuple) da_nil)) (by walk_at "isi")) fun c => de_one (de_all h B (l0 := [p.1, p.2]) (c := fun _ => true) rfl (do_lcM h B [p.1, p.2] .int (fun _ => .bl true) [("own", 1)] (tg_name h 1 rfl rfl (by simp)) rfl
      ⟨wi_tupE (de_var h 0 rfl rfl rfl) rfl, by simp, fun x hx => ⟨_, rfl, fun X' ⟨h, B, _⟩ m => ?_⟩⟩) rfl)) (by rfl)) (.now q)))
    have ht : hasT (D.int x) = true := rfl
    exact (de_call h (ok_is_number B) rfl (da_cons (de_var h 1 rfl rfl rfl) da_nil) (by walk_at "is_number"))
def s_is_pair : SpD := fun ds M Q => ∃ p : Pt, ds = [sqD p] ∧ Q (.bl true) M
theorem ok_is_pair {X : Cx} (B : Bs X) : Dn X "is_pair" 3 ["thing"] s_is_pair := by
  refine def_by B 11 6 6 (k := 2) (N := ["thing"]) rfl rfl ⟨rfl, rfl, rfl, by decide +kernel, rfl, by decide +kernel, by decide +kernel⟩ (fun _ _ _ _ _ _ us hl => match us, hl with | [_], _ => rfl) ?len ?body
  case len => rintro _ _ _ ⟨r, rfl, _⟩; rfl
  case body =>
    rintro X' h B _ M QD ⟨p, rfl, q⟩
    exact wss_one (ws_ret (DE.to (d := .bl true) (DE.as (de_and (de_call h (ok_is_long B) rfl (da_cons (de_var h 0 rfl rfl rfl) (da_cons de_int da_nil)) ⟨_, _, rfl, rfl, rfl, rfl⟩) fun c => de_one (de_call h (ok_are_numbers B) rfl (da_cons (de_var h 0 rfl rfl rfl) da_nil) ⟨_, rfl, rfl, rfl⟩)) (by rfl)) (.now q)))
def s_is_any_square : SpD := fun ds M Q => ∃ p : Pt, ds = [sqD p] ∧ Q (.bl (decide (0 ≤ p.1) && decide (0 ≤ p.2))) M
theorem ok_is_any_square {X : Cx} (B : Bs X) : Dn X "is_any_square" 4 ["thing"] s_is_any_square := by
  refine def_by B 12 7 7 (k := 3) (N := ["thing"]) rfl rfl ⟨rfl, rfl, rfl, by decide +kernel, rfl, by decide +kernel, by decide +kernel⟩ (fun _ _ _ _ _ _ us hl => match us, hl with | [_], _ => rfl) ?len ?body
  case len => rintro _ _ _ ⟨r, rfl, _⟩; rfl
  case body =>
    rintro X' h B _ M QD ⟨p, rfl, q⟩
    exact wss_one (ws_ret (DE.to (DE.as (de_and (de_call h (ok_is_pair B) rfl (da_cons (de_var h 0 rfl rfl rfl) da_nil) ⟨_, rfl, rfl, rfl⟩) fun c => de_and (de_cmp (de_ix (de_var h 0 rfl rfl rfl) de_int (by walk_at "sq") (by walk_at "at")) de_int (by walk_at "op")) fun c => de_one (de_cmp (de_ix (de_var h 0 rfl rfl rfl) de_int (by walk_at "sq") (by walk_at "at")) de_int (by walk_at "op"))) (by rfl)) (.now q)))
def s_is_room : SpD := fun ds M Q => ∃ r : List Pt, ds = [roomD r] ∧ Rm r ∧ Q (.bl true) M
theorem ok_is_room {X : Cx} (B : Bs X) : Dn X "is_room" 5 ["thing"] s_is_room := by
  refine def_by B 13 8 8 (k := 4) (N := ["thing", "own"]) rfl rfl ⟨rfl, rfl, rfl, by decide +kernel, rfl, by decide +kernel, by decide +kernel⟩ (fun _ _ _ _ _ _ us hl => match us, hl with | [_], _ => rfl) ?len ?body
  case len => rintro _ _ _ ⟨r, rfl, _⟩; rfl
  case body =>
    rintro X' h B _ M QD ⟨r, rfl, hr, q⟩
    have ht : hasT (roomD r) = true := rfl
    have e1 : decide (((r.map sqD).length : Int) = 0) = false := by
      rw [decide_eq_false_iff_not, List.length_map]
      have := List.length_pos_iff.mpr hr.ne
      omega
    have e2 : r.all (fun p => decide (0 ≤ p.1) && decide (0 ≤ p.2)) = true := by
      rw [List.all_eq_true]
      intro p hp
      have := hr.nn p hp
      simp [this.1, this.2]
    have hl := hr.len
    refine wss_cons (ws_if (DT.to (d := false) (DT.as (DW.dt (dw_or (dt_not (dt_val (de_callB h rfl B.f_isinstance boot_isinstance (da_cons (de_var h 0 rfl rfl rfl) (da_cons (de_ty h rfl B.f_tuple boot_tuple) da_nil)) (by walk_at "isi")))) fun c => dw_or (dt_cmp (de_callB h rfl B.f_len boot_len (da_cons (de_var h 0 rfl rfl rfl) da_nil) (by walk_at "len")) de_int (by walk_at "op")) fun c => dw_or1 (dt_not (dt_val (de_all h B (l0 := r) (c := fun p => decide (0 ≤ p.1) && decide (0 ≤ p.2)) rfl (do_lcM h B r sqD (fun p => .bl (decide (0 ≤ p.1) && decide (0 ≤ p.2))) [("own", 1)] (tg_name h 1 rfl rfl (by simp)) rfl
      ⟨wi_tupE (de_var h 0 rfl rfl rfl) rfl, by omega, fun x hx => ⟨_, rfl, fun X' ⟨h, B, _⟩ m => (de_call h (ok_is_any_square B) rfl (da_cons (de_var h 1 rfl rfl rfl) da_nil) ⟨x, rfl, rfl, rfl⟩)⟩⟩) rfl))))) (by rw [e1, e2]; rfl)) ⟨fun c => (nomatch c), fun _ => wss_nil (wss_one (ws_ret (DE.to (de_call h (ok_ascends B) rfl (da_cons (de_var h 0 rfl rfl rfl) da_nil) ⟨r, rfl, hr.asc, by omega, rfl, rfl⟩) (.now q))))⟩))
def s_sure_room : SpD := fun ds M Q => ∃ (d : D) (r : List Pt), ds = [d] ∧ okD 2 d = true ∧ tupD d = roomD r ∧ Rm r ∧ Q (roomD r) M
theorem ok_sure_room {X : Cx} (B : Bs X) : Dn X "sure_room" 6 ["room"] s_sure_room := by
  refine def_by B 14 9 9 (k := 5) (N := ["room", "own"]) rfl rfl ⟨rfl, rfl, rfl, by decide +kernel, rfl, by decide +kernel, by decide +kernel⟩ (fun _ _ _ _ _ _ us hl => match us, hl with | [_], _ => rfl) ?len ?body
  case len => rintro _ _ _ ⟨d, r, rfl, _⟩; rfl
  case body =>
    rintro X' h B _ M QD ⟨d, r, rfl, ho, ht, hr, q⟩
    refine wss_cons (ws_set h 1 rfl rfl (DE.to (DE.as (de_call h (ok_tupled 2 B) rfl (da_cons (de_var h 0 rfl rfl rfl) da_nil) ⟨d, rfl, ho, rfl, rfl⟩) ht) ?_))
    refine wss_cons (ws_if (DT.to (d := false) (dt_not (dt_val (de_call h (ok_is_room B) rfl (da_cons (de_var h 1 rfl rfl rfl) da_nil) ⟨r, rfl, hr, rfl, rfl⟩))) ⟨fun c => (nomatch c), fun _ => wss_nil (wss_one (ws_ret (DE.to (de_var h 1 rfl rfl rfl) (.now q))))⟩))
def eight (p : Pt) : List Pt := [(p.1 - 1, p.2 - 1), (p.1 - 1, p.2), (p.1 - 1, p.2 + 1), (p.1, p.2 - 1), (p.1, p.2 + 1), (p.1 + 1, p.2 - 1), (p.1 + 1, p.2), (p.1 + 1, p.2 + 1)]
def s_eight_of : SpD := fun ds M Q => ∃ p : Pt, ds = [sqD p] ∧ Q (.lst ((eight p).map sqD)) M
theorem ok_eight_of {X : Cx} (B : Bs X) : Dn X "eight_of" 1 ["square"] s_eight_of := by
  refine def_by B 15 10 10 (k := 0) (N := ["square", "x", "y", "west", "east"]) rfl rfl ⟨rfl, rfl, rfl, by decide +kernel, rfl, by decide +kernel, by decide +kernel⟩ (fun _ _ _ _ _ _ us hl => match us, hl with | [_], _ => rfl) ?len ?body
  case len => rintro _ _ _ ⟨r, rfl, _⟩; rfl
  case body =>
    rintro X' h B _ M QD ⟨p, rfl, q⟩
    refine wss_cons (ws_asg (DE.to (de_var h 0 rfl rfl rfl) (wg_tup h (wgs_cons h 1 rfl rfl (wgs_cons h 2 rfl rfl (wgs_nil ?_))) rfl)))
    refine wss_cons (ws_par h 3 4 rfl rfl (by decide) rfl rfl (h.sw0 fun E e => by cases E; cases e; rfl) (DE.to (do_lst (da_cons (de_tup (da_cons (de_bin (de_var h 1 rfl rfl rfl) de_int (by walk_at "op")) (da_cons (de_bin (de_var h 2 rfl rfl rfl) de_int (by walk_at "op")) da_nil))) (da_cons (de_tup (da_cons (de_bin (de_var h 1 rfl rfl rfl) de_int (by walk_at "op")) (da_cons (de_var h 2 rfl rfl rfl) da_nil))) (da_cons (de_tup (da_cons (de_bin (de_var h 1 rfl rfl rfl) de_int (by walk_at "op")) (da_cons (de_bin (de_var h 2 rfl rfl rfl) de_int (by walk_at "op")) da_nil))) da_nil)))).frz (DE.to (do_lst (da_cons (de_tup (da_cons (de_bin (de_var h 1 rfl rfl rfl) de_int (by walk_at "op")) (da_cons (de_bin (de_var h 2 rfl rfl rfl) de_int (by walk_at "op")) da_nil))) (da_cons (de_tup (da_cons (de_bin (de_var h 1 rfl rfl rfl) de_int (by walk_at "op")) (da_cons (de_var h 2 rfl rfl rfl) da_nil))) (da_cons (de_tup (da_cons (de_bin (de_var h 1 rfl rfl rfl) de_int (by walk_at "op")) (da_cons (de_bin (de_var h 2 rfl rfl rfl) de_int (by walk_at "op")) da_nil))) da_nil)))).frz ?_)))
    exact wss_one (ws_ret (DE.to (DO.frz (do_bin (DO.frz (do_bin (de_var h 3 rfl rfl rfl) (do_lst (da_cons (de_tup (da_cons (de_var h 1 rfl rfl rfl) (da_cons (de_bin (de_var h 2 rfl rfl rfl) de_int (by walk_at "op")) da_nil))) (da_cons (de_tup (da_cons (de_var h 1 rfl rfl rfl) (da_cons (de_bin (de_var h 2 rfl rfl rfl) de_int (by walk_at "op")) da_nil))) da_nil))).frz (wo_cat .lst .lst (by simp) fun p => ⟨p, rfl, rfl⟩))) (de_var h 4 rfl rfl rfl) (wo_cat .lst .lst (by simp) fun p => ⟨p, rfl, rfl⟩))) (.now q)))
def four (p : Pt) : List Pt := [(p.1 - 1, p.2 - 1), (p.1 - 1, p.2), (p.1, p.2 - 1), (p.1, p.2)]
def s_four_of : SpD := fun ds M Q => ∃ p : Pt, ds = [sqD p] ∧ Q (.tup ((four p).map sqD)) M
theorem ok_four_of {X : Cx} (B : Bs X) : Dn X "four_of" 1 ["point"] s_four_of := by
  refine def_by B 16 11 11 (k := 0) (N := ["point", "x", "y"]) rfl rfl ⟨rfl, rfl, rfl, by decide +kernel, rfl, by decide +kernel, by decide +kernel⟩ (fun _ _ _ _ _ _ us hl => match us, hl with | [_], _ => rfl) ?len ?body
  case len => rintro _ _ _ ⟨r, rfl, _⟩; rfl
  case body =>
    rintro X' h B _ M QD ⟨p, rfl, q⟩
    refine wss_cons (ws_asg (DE.to (de_var h 0 rfl rfl rfl) (wg_tup h (wgs_cons h 1 rfl rfl (wgs_cons h 2 rfl rfl (wgs_nil ?_))) rfl)))
    exact wss_one (ws_ret (DE.to (de_tup (da_cons (de_tup (da_cons (de_bin (de_var h 1 rfl rfl rfl) de_int (by walk_at "op")) (da_cons (de_bin (de_var h 2 rfl rfl rfl) de_int (by walk_at "op")) da_nil))) (da_cons (de_tup (da_cons (de_bin (de_var h 1 rfl rfl rfl) de_int (by walk_at "op")) (da_cons (de_var h 2 rfl rfl rfl) da_nil))) (da_cons (de_tup (da_cons (de_var h 1 rfl rfl rfl) (da_cons (de_bin (de_var h 2 rfl rfl rfl) de_int (by walk_at "op")) da_nil))) (da_cons (de_tup (da_cons (de_var h 1 rfl rfl rfl) (da_cons (de_var h 2 rfl rfl rfl) da_nil))) da_nil))))) (.now q)))
end DL

set_option maxHeartbeats 4000000
/-! walks: rooms, kinds. -/
namespace DL
open PySem PySem.Spec PyProof.Rows L2 Evl

local macro_rules
  | `(tactic| walk_at "op") => `(tactic| first
    | exact wo_add ⟨rfl, rfl⟩ | exact wo_sub ⟨rfl, rfl⟩ | exact wo_lt ⟨rfl, rfl⟩ | exact wo_le ⟨rfl, rfl⟩ | exact wo_gt ⟨rfl, rfl⟩ | exact wo_ge ⟨rfl, rfl⟩
    | exact wo_eqi ⟨rfl, rfl⟩ | exact wo_nei ⟨rfl, rfl⟩ | exact wo_eqb ⟨rfl, rfl⟩ | exact wo_neb ⟨rfl, rfl⟩ | exact wo_isN ⟨rfl, rfl⟩ | exact wo_notN ⟨rfl, rfl⟩)
  | `(tactic| walk_at "sq") => `(tactic| first | exact Sq.tup | exact Sq.lst | exact Sq.tupN | exact Sq.ref _ rfl)
  | `(tactic| walk_at "at") => `(tactic| first | rfl | assumption)
  | `(tactic| walk_at "isi") => `(tactic| first | exact wc_isI (by assumption) ⟨rfl, rfl⟩ | exact wc_isB (by assumption) ⟨rfl, rfl⟩ | exact wc_isT (by assumption) ⟨rfl, rfl⟩ | exact wc_isL (by assumption) ⟨rfl, rfl⟩ | exact wc_isLT (by assumption) ⟨rfl, rfl⟩ | exact wc_isBS (by assumption) ⟨rfl, rfl⟩)
  | `(tactic| walk_at "len") => `(tactic| exact wc_len (by first | exact Sq.tup | exact Sq.lst | exact Sq.tupN | exact Sq.ref _ rfl) ⟨rfl, rfl⟩)
  | `(tactic| walk_at "tuple") => `(tactic| exact wc_tuple (by first | exact Sq.lst | exact Sq.tup | exact Sq.tupN | exact Sq.ref _ rfl) ⟨rfl, rfl⟩)
  | `(tactic| walk_at "all") => `(tactic| exact wc_all (by assumption) (by first | exact SqO.lst | exact SqO.ref _ rfl) ⟨rfl, rfl⟩)

local macro_rules
  | `(tactic| walk_at "is_number") => `(tactic| exact ⟨_, rfl, by assumption, rfl, rfl⟩)
  | `(tactic| walk_at "tupled") => `(tactic| exact ⟨_, rfl, by assumption, rfl, rfl⟩)

/-- known_of -/
def knPair : D → NK × D
  | .tup [.int i, .tup [.int x, .int y]] => (sk (x, y), .int i)
  | _ => (.none, .non)
theorem kn_of (r : List Pt) : Kn r (putsN [] ((enD (r.map sqD)).map knPair)) := fun p => by
  rw [lookup_putsN]
  simp only [List.lookup_nil, Option.or_none]
  rw [lk_some, List.map_reverse]
  have e : ((enD (r.map sqD)).map knPair).map (·.1) = r.map sk := by
    apply List.ext_getElem?
    intro i
    simp only [enD, List.map_map, List.getElem?_map, List.getElem?_mapIdx]
    cases r[i]? <;> rfl
  rw [e]
  simp only [List.mem_reverse, List.mem_map]
  exact decide_eq_decide.mpr ⟨fun ⟨q, hq, eq⟩ => by rw [← sk_inj eq]; exact hq, fun hp => ⟨p, hp, rfl⟩⟩
def s_known_of : SpD := fun ds M Q => ∃ r : List Pt, ds = [roomD r] ∧ r.length ≤ 1000 ∧ ∀ kvs, Kn r kvs → Q (.dic kvs) M
theorem ok_known_of {X : Cx} (B : Bs X) : Dn X "known_of" 1 ["room"] s_known_of := by
  refine def_by B 17 12 12 (k := 0) (N := ["room", "place", "square"]) rfl rfl ⟨rfl, rfl, rfl, by decide +kernel, rfl, by decide +kernel, by decide +kernel⟩ (fun _ _ _ _ _ _ us hl => match us, hl with | [_], _ => rfl) ?len ?body
  case len => rintro _ _ _ ⟨r, rfl, _⟩; rfl
  case body =>
    rintro X' h B _ M QD ⟨r, rfl, hl, q⟩
    refine wss_one (ws_ret (DE.to (d := .dic (putsN [] ((enD (r.map sqD)).map knPair))) (DO.frz (mo := .dic (putsN [] ((enD (r.map sqD)).map knPair))) (wo_dx h (own := [("place", 1), ("square", 2)]) (tg_pair h 1 2 rfl rfl rfl rfl (by simp) (by simp)) rfl B.toT knPair ?_)) (.now (q _ (kn_of r)))))
    refine wi_en h rfl B.f_enumerate ((DA.to (da_cons (de_var h 0 rfl rfl rfl) da_nil) ⟨_, _, rfl, .tup, fun m => .tup, by simp [enD]; omega, fun d hd => ?_, fun p => ⟨p, rfl, rfl⟩⟩))
    obtain ⟨i, hi, ei⟩ := List.mem_iff_getElem.mp hd
    obtain ⟨x, hx, rfl⟩ := en_get (List.getElem?_eq_some_iff.mpr ⟨hi, ei⟩)
    rw [List.getElem?_map] at hx
    cases hp : r[i]? with
    | none => rw [hp] at hx; cases hx
    | some p =>
      rw [hp] at hx
      cases hx
      exact ⟨sk_ok p, _, rfl, fun X' ⟨h, B, _⟩ m => ⟨DE.as (de_var h 2 rfl rfl rfl) (sk_D p).symm, (de_var h 1 rfl rfl rfl)⟩⟩
def nearAll (r : List Pt) (l : List Pt) : Bool := l.all fun n => decide (n ∈ r)
def rimL (r : List Pt) : List Pt := r.filter fun s => !nearAll r (eight s)
def pointsL (r : List Pt) : List Pt := r.filter fun s => nearAll r (four s)
def s_rim_in : SpD := fun ds M Q => ∃ r : List Pt, ds = [roomD r] ∧ r.length ≤ 1000 ∧ Q (.lst ((rimL r).map sqD)) M
theorem ok_rim_in {X : Cx} (B : Bs X) : Dn X "rim_in" 2 ["room"] s_rim_in := by
  refine def_by B 18 13 13 (k := 1) (N := ["room", "known", "square", "near"]) rfl rfl ⟨rfl, rfl, rfl, by decide +kernel, rfl, by decide +kernel, by decide +kernel⟩ (fun _ _ _ _ _ _ us hl => match us, hl with | [_], _ => rfl) ?len ?body
  case len => rintro _ _ _ ⟨r, rfl, _⟩; rfl
  case body =>
    rintro X' h B _ M QD ⟨r, rfl, hl, q⟩
    refine wss_cons (ws_set h 1 rfl rfl (we_call h (ok_known_of B) rfl (DA.to (da_cons (de_var h 0 rfl rfl rfl) da_nil) ⟨r, rfl, hl, fun kvs hk => ?_⟩)))
    refine wss_one (ws_ret (DE.to (DO.frz (do_lcA h B r sqD (fun s => !nearAll r (eight s)) sqD [("square", 2)] (tg_name h 2 rfl rfl (by simp)) rfl ⟨wi_tupE (de_var h 0 rfl rfl rfl) rfl, by omega, fun x hx => ⟨_, rfl, fun X' ⟨h, B, _⟩ m => ?_, fun _ X' ⟨h, B, _⟩ m => (de_var h 2 rfl rfl rfl)⟩⟩)) (.now q)))
    refine dt_not (dt_val (de_all h B (l0 := eight x) (c := fun n => decide (n ∈ r)) rfl (do_lcM h B (eight x) sqD (fun n => .bl (decide (n ∈ r))) [("near", 3)] (tg_name h 3 rfl rfl (by simp)) rfl
      ⟨wi_lstE (de_call h (ok_eight_of B) rfl (da_cons (de_var h 2 rfl rfl rfl) da_nil) ⟨x, rfl, rfl, rfl⟩) rfl, by simp [eight], fun n _ => ⟨_, rfl, fun X' ⟨h, B, _⟩ m => de_cmp (de_var h 3 rfl rfl rfl) (de_var h 1 rfl rfl rfl) (wo_inN h (sk_ok n) (sk_D n).symm .dic ⟨by rw [hk n], rfl⟩)⟩⟩) rfl))
def s_points_in : SpD := fun ds M Q => ∃ r : List Pt, ds = [roomD r] ∧ r.length ≤ 1000 ∧ Q (.lst ((pointsL r).map sqD)) M
theorem ok_points_in {X : Cx} (B : Bs X) : Dn X "points_in" 2 ["room"] s_points_in := by
  refine def_by B 19 14 14 (k := 1) (N := ["room", "known", "square", "own"]) rfl rfl ⟨rfl, rfl, rfl, by decide +kernel, rfl, by decide +kernel, by decide +kernel⟩ (fun _ _ _ _ _ _ us hl => match us, hl with | [_], _ => rfl) ?len ?body
  case len => rintro _ _ _ ⟨r, rfl, _⟩; rfl
  case body =>
    rintro X' h B _ M QD ⟨r, rfl, hl, q⟩
    refine wss_cons (ws_set h 1 rfl rfl (we_call h (ok_known_of B) rfl (DA.to (da_cons (de_var h 0 rfl rfl rfl) da_nil) ⟨r, rfl, hl, fun kvs hk => ?_⟩)))
    refine wss_one (ws_ret (DE.to (DO.frz (do_lcA h B r sqD (fun s => nearAll r (four s)) sqD [("square", 2)] (tg_name h 2 rfl rfl (by simp)) rfl ⟨wi_tupE (de_var h 0 rfl rfl rfl) rfl, by omega, fun x hx => ⟨_, rfl, fun X' ⟨h, B, _⟩ m => ?_, fun _ X' ⟨h, B, _⟩ m => (de_var h 2 rfl rfl rfl)⟩⟩)) (.now q)))
    refine dt_val (de_all h B (l0 := four x) (c := fun n => decide (n ∈ r)) rfl (do_lcM h B (four x) sqD (fun n => .bl (decide (n ∈ r))) [("own", 3)] (tg_name h 3 rfl rfl (by simp)) rfl
      ⟨wi_tupE (de_call h (ok_four_of B) rfl (da_cons (de_var h 2 rfl rfl rfl) da_nil) ⟨x, rfl, rfl, rfl⟩) rfl, by simp [four], fun n _ => ⟨_, rfl, fun X' ⟨h, B, _⟩ m => de_cmp (de_var h 3 rfl rfl rfl) (de_var h 1 rfl rfl rfl) (wo_inN h (sk_ok n) (sk_D n).symm .dic ⟨by rw [hk n], rfl⟩)⟩⟩) rfl)
def s_is_kind : SpD := fun ds M Q => ∃ d, ds = [d] ∧ hasT d = true ∧ Q (.bl (isNumD d && inD 0 4 d)) M
theorem ok_is_kind {X : Cx} (B : Bs X) : Dn X "is_kind" 3 ["thing"] s_is_kind := by
  refine def_by B 27 15 15 (k := 2) (N := ["thing"]) rfl rfl ⟨rfl, rfl, rfl, by decide +kernel, rfl, by decide +kernel, by decide +kernel⟩ (fun _ _ _ _ _ _ us hl => match us, hl with | [_], _ => rfl) ?len ?body
  case len => rintro _ _ _ ⟨r, rfl, _⟩; rfl
  case body =>
    rintro X' h B _ M QD ⟨d, rfl, ht, q⟩
    exact wss_one (ws_ret (DE.to (de_call h (ok_is_within B) rfl (da_cons (de_var h 0 rfl rfl rfl) (da_cons de_int (da_cons de_int da_nil))) ⟨d, 0, 4, rfl, ht, rfl, rfl⟩) (.now q)))
def itemsD : D → List D
  | .tup ds => ds
  | _ => []
/-- many kinds -/
def kindsD (n : Nat) (d : D) : Bool := isTupD d && decide ((lenD d : Int) = n) && (itemsD d).all fun x => isNumD x && inD 0 4 x
def s_are_kinds : SpD := fun ds M Q => ∃ (d : D) (n : Nat), ds = [d, .int n] ∧ okD 2 d = true ∧ Q (.bl (kindsD n d)) M
theorem ok_are_kinds {X : Cx} (B : Bs X) : Dn X "are_kinds" 4 ["thing", "many"] s_are_kinds := by
  refine def_by B 28 16 16 (k := 3) (N := ["thing", "many", "own"]) rfl rfl ⟨rfl, rfl, rfl, by decide +kernel, rfl, by decide +kernel, by decide +kernel⟩ (fun _ _ _ _ _ _ us hl => match us, hl with | [_, _], _ => rfl) ?len ?body
  case len => rintro _ _ _ ⟨r, n, rfl, _⟩; rfl
  case body =>
    rintro X' h B _ M QD ⟨d, n, rfl, ho, q⟩
    have ht := okD_t ho
    refine wss_one (ws_ret (DE.to (d := .bl (kindsD n d)) (DE.as (de_and (u := (itemsD d).all fun x => isNumD x && inD 0 4 x) (de_call h (ok_is_long B) rfl (da_cons (de_var h 0 rfl rfl rfl) (da_cons (de_var h 1 rfl rfl rfl) da_nil)) ⟨d, _, rfl, ht, rfl, rfl⟩) fun c => ?_) (by simp [kindsD])) (.now q)))
    cases d with
    | tup xs =>
      simp only [okD, Bool.and_eq_true, List.all_eq_true, decide_eq_true_eq] at ho
      refine de_one (de_all h B (l0 := xs) (c := fun x => isNumD x && inD 0 4 x) rfl (do_lcM h B xs id (fun x => .bl (isNumD x && inD 0 4 x)) [("own", 2)] (tg_name h 2 rfl rfl (by simp)) rfl
        ⟨wi_tupE (de_var h 0 rfl rfl rfl) (by simp), by omega, fun x hx => ⟨_, rfl, fun X' ⟨h, B, _⟩ m => de_call h (ok_is_kind B) rfl (da_cons (de_var h 2 rfl rfl rfl) da_nil) ⟨x, rfl, okD_t (ho.1 x hx), rfl, rfl⟩⟩⟩) rfl)
    | _ => simp [isTupD, okD] at c ho
/-- the square a kind leads to -/
def led (p : Pt) (k : Int) : Pt := match k with
  | 1 => (p.1 + 1, p.2)
  | 2 => (p.1, p.2 + 1)
  | 3 => (p.1 - 1, p.2)
  | 4 => (p.1, p.2 - 1)
  | _ => p
theorem kind_cases {k : Int} (h : k ∈ kindsL) : k = 0 ∨ k = 1 ∨ k = 2 ∨ k = 3 ∨ k = 4 := by simpa [kindsL] using h
theorem far_at {k : Int} (h : k ∈ kindsL) : ∃ f : Pt, L2.atI (farL.map sqD) k = some (sqD f) ∧ ∀ p : Pt, led p k = (p.1 + f.1, p.2 + f.2) := by
  rcases kind_cases h with rfl | rfl | rfl | rfl | rfl
  · exact ⟨(0, 0), rfl, fun p => by simp [led]⟩
  · exact ⟨(1, 0), rfl, fun p => by simp [led]⟩
  · exact ⟨(0, 1), rfl, fun p => by simp [led]⟩
  · exact ⟨(-1, 0), rfl, fun p => by simp [led]; omega⟩
  · exact ⟨(0, -1), rfl, fun p => by simp [led]; omega⟩
def s_led_by : SpD := fun ds M Q => ∃ (p : Pt) (k : Int), ds = [sqD p, .int k] ∧ k ∈ kindsL ∧ Q (sqD (led p k)) M
theorem ok_led_by {X : Cx} (B : Bs X) : Dn X "led_by" 1 ["square", "kind"] s_led_by := by
  refine def_by B 29 17 17 (k := 0) (N := ["square", "kind"]) rfl rfl ⟨rfl, rfl, rfl, by decide +kernel, rfl, by decide +kernel, by decide +kernel⟩ (fun _ _ _ _ _ _ us hl => match us, hl with | [_, _], _ => rfl) ?len ?body
  case len => rintro _ _ _ ⟨r, n, rfl, _⟩; rfl
  case body =>
    rintro X' h B _ M QD ⟨p, k, rfl, hk, q⟩
    obtain ⟨f, hf, e⟩ := far_at hk
    rw [e] at q
    exact wss_one (ws_ret (DE.to (de_tup (da_cons (de_bin (de_ix (de_var h 0 rfl rfl rfl) de_int (by walk_at "sq") (by walk_at "at")) (de_ix (de_ix (de_FAR h B rfl) (de_var h 1 rfl rfl rfl) .tup hf) de_int .tup rfl) (wo_add ⟨rfl, rfl⟩)) (da_cons (de_bin (de_ix (de_var h 0 rfl rfl rfl) de_int (by walk_at "sq") (by walk_at "at")) (de_ix (de_ix (de_FAR h B rfl) (de_var h 1 rfl rfl rfl) .tup hf) de_int .tup rfl) (wo_add ⟨rfl, rfl⟩)) da_nil))) (.now q)))
def s_alone_in : SpD := fun ds M Q => ∃ (r : List Pt) (kvs : List (NK × D)) (p : Pt) (k : Int), ds = [.dic kvs, sqD p, .int k] ∧ Kn r kvs ∧ k ∈ kindsL ∧ Q (.bl (decide (led p k ∈ r))) M
theorem ok_alone_in {X : Cx} (B : Bs X) : Dn X "alone_in" 2 ["known", "square", "kind"] s_alone_in := by
  refine def_by B 30 18 18 (k := 1) (N := ["known", "square", "kind"]) rfl rfl ⟨rfl, rfl, rfl, by decide +kernel, rfl, by decide +kernel, by decide +kernel⟩ (fun _ _ _ _ _ _ us hl => match us, hl with | [_, _, _], _ => rfl) ?len ?body
  case len => rintro _ _ _ ⟨r, n, p, k, rfl, _⟩; rfl
  case body =>
    rintro X' h B _ M QD ⟨r, kvs, p, k, rfl, hn, hk, q⟩
    exact wss_one (ws_ret (DE.to (de_cmp (de_call h (ok_led_by B) rfl (da_cons (de_var h 1 rfl rfl rfl) (da_cons (de_var h 2 rfl rfl rfl) da_nil)) ⟨p, k, rfl, hk, rfl, rfl⟩) (de_var h 0 rfl rfl rfl) (wo_inN h (sk_ok _) (sk_D _).symm .dic ⟨by rw [hn], rfl⟩)) (.now q)))
def goodsL (r : List Pt) (p : Pt) : List Int := kindsL.filter fun k => decide (led p k ∈ r)
def s_kinds_in : SpD := fun ds M Q => ∃ (r : List Pt) (kvs : List (NK × D)) (p : Pt), ds = [.dic kvs, sqD p] ∧ Kn r kvs ∧ Q (.lst ((goodsL r p).map .int)) M
theorem ok_kinds_in {X : Cx} (B : Bs X) : Dn X "kinds_in" 3 ["known", "square"] s_kinds_in := by
  refine def_by B 31 19 19 (k := 2) (N := ["known", "square", "kind"]) rfl rfl ⟨rfl, rfl, rfl, by decide +kernel, rfl, by decide +kernel, by decide +kernel⟩ (fun _ _ _ _ _ _ us hl => match us, hl with | [_, _], _ => rfl) ?len ?body
  case len => rintro _ _ _ ⟨r, n, p, rfl, _⟩; rfl
  case body =>
    rintro X' h B _ M QD ⟨r, kvs, p, rfl, hn, q⟩
    exact wss_one (ws_ret (DE.to (DO.frz (do_lcA h B kindsL .int (fun k => decide (led p k ∈ r)) .int [("kind", 2)] (tg_name h 2 rfl rfl (by simp)) rfl ⟨wi_tupE (de_KINDS h B rfl) rfl, by simp [kindsL], fun x hx => ⟨_, rfl, fun X' ⟨h, B, _⟩ m =>
      dt_val (de_call h (ok_alone_in B) rfl (da_cons (de_var h 0 rfl rfl rfl) (da_cons (de_var h 1 rfl rfl rfl) (da_cons (de_var h 2 rfl rfl rfl) da_nil))) ⟨r, kvs, p, x, rfl, hn, hx, rfl, rfl⟩), fun _ X' ⟨h, B, _⟩ m => (de_var h 2 rfl rfl rfl)⟩⟩)) (.now q)))
def fitsA (k o : Int) : Bool := decide (k = 1) == decide (o = 3)
def fitsB (k o : Int) : Bool := decide (k = 2) == decide (o = 4)
def s_fits_across : SpD := fun ds M Q => ∃ k o : Int, ds = [.int k, .int o] ∧ Q (.bl (fitsA k o)) M
theorem ok_fits_across {X : Cx} (B : Bs X) : Dn X "fits_across" 1 ["kind", "other"] s_fits_across := by
  refine def_by B 32 20 20 (k := 0) (N := ["kind", "other"]) rfl rfl ⟨rfl, rfl, rfl, by decide +kernel, rfl, by decide +kernel, by decide +kernel⟩ (fun _ _ _ _ _ _ us hl => match us, hl with | [_, _], _ => rfl) ?len ?body
  case len => rintro _ _ _ ⟨r, n, rfl, _⟩; rfl
  case body =>
    rintro X' h B _ M QD ⟨k, o, rfl, q⟩
    exact wss_one (ws_ret (DE.to (de_cmp (de_cmp (de_var h 0 rfl rfl rfl) (de_num h rfl B.f_EAST) (by walk_at "op")) (de_cmp (de_var h 1 rfl rfl rfl) (de_num h rfl B.f_WEST) (by walk_at "op")) (by walk_at "op")) (.now q)))
def s_fits_down : SpD := fun ds M Q => ∃ k o : Int, ds = [.int k, .int o] ∧ Q (.bl (fitsB k o)) M
theorem ok_fits_down {X : Cx} (B : Bs X) : Dn X "fits_down" 1 ["kind", "other"] s_fits_down := by
  refine def_by B 33 21 21 (k := 0) (N := ["kind", "other"]) rfl rfl ⟨rfl, rfl, rfl, by decide +kernel, rfl, by decide +kernel, by decide +kernel⟩ (fun _ _ _ _ _ _ us hl => match us, hl with | [_, _], _ => rfl) ?len ?body
  case len => rintro _ _ _ ⟨r, n, rfl, _⟩; rfl
  case body =>
    rintro X' h B _ M QD ⟨k, o, rfl, q⟩
    exact wss_one (ws_ret (DE.to (de_cmp (de_cmp (de_var h 0 rfl rfl rfl) (de_num h rfl B.f_SOUTH) (by walk_at "op")) (de_cmp (de_var h 1 rfl rfl rfl) (de_num h rfl B.f_NORTH) (by walk_at "op")) (by walk_at "op")) (.now q)))
/-- two squares beside one another -/
def fits2 (s t : Pt) (k o : Int) : Bool := if s.2 = t.2 then fitsA k o else fitsB k o
def s_fits_two : SpD := fun ds M Q => ∃ (s t : Pt) (k o : Int), ds = [.tup [sqD s, sqD t], .tup [.int k, .int o]] ∧ Q (.bl (fits2 s t k o)) M
theorem ok_fits_two {X : Cx} (B : Bs X) : Dn X "fits_two" 2 ["spot", "kinds"] s_fits_two := by
  refine def_by B 34 22 22 (k := 1) (N := ["spot", "kinds"]) rfl rfl ⟨rfl, rfl, rfl, by decide +kernel, rfl, by decide +kernel, by decide +kernel⟩ (fun _ _ _ _ _ _ us hl => match us, hl with | [_, _], _ => rfl) ?len ?body
  case len => rintro _ _ _ ⟨r, n, k, o, rfl, _⟩; rfl
  case body =>
    rintro X' h B _ M QD ⟨s, t, k, o, rfl, q⟩
    refine wss_cons (ws_if (DT.to (dt_cmp (de_ix (de_ix (de_var h 0 rfl rfl rfl) de_int (by walk_at "sq") (by walk_at "at")) de_int (by walk_at "sq") (by walk_at "at")) (de_ix (de_ix (de_var h 0 rfl rfl rfl) de_int (by walk_at "sq") (by walk_at "at")) de_int (by walk_at "sq") (by walk_at "at")) (by walk_at "op")) ⟨fun c => wss_one (ws_ret (DE.to (de_call h (ok_fits_across B) rfl (da_cons (de_ix (de_var h 1 rfl rfl rfl) de_int (by walk_at "sq") (by walk_at "at")) (da_cons (de_ix (de_var h 1 rfl rfl rfl) de_int (by walk_at "sq") (by walk_at "at")) da_nil)) ⟨k, o, rfl, rfl, rfl⟩) (.now ?_))), fun c => wss_nil (wss_one (ws_ret (DE.to (de_call h (ok_fits_down B) rfl (da_cons (de_ix (de_var h 1 rfl rfl rfl) de_int (by walk_at "sq") (by walk_at "at")) (da_cons (de_ix (de_var h 1 rfl rfl rfl) de_int (by walk_at "sq") (by walk_at "at")) da_nil)) ⟨k, o, rfl, rfl, rfl⟩) (.now ?_))))⟩))
    · rw [fits2, if_pos (of_decide_eq_true c)] at q; exact q
    · rw [fits2, if_neg (of_decide_eq_false c)] at q; exact q
def pairsL (r : List Pt) (p : Pt) : List (List Pt) := ([(p.1, p.2 + 1), (p.1 + 1, p.2)].filter fun n => decide (n ∈ r)).map fun n => [p, n]
abbrev spotD (l : List Pt) : D := .tup (l.map sqD)
def s_pairs_from : SpD := fun ds M Q => ∃ (r : List Pt) (kvs : List (NK × D)) (p : Pt), ds = [.dic kvs, sqD p] ∧ Kn r kvs ∧ Q (.lst ((pairsL r p).map spotD)) M
theorem ok_pairs_from {X : Cx} (B : Bs X) : Dn X "pairs_from" 1 ["known", "square"] s_pairs_from := by
  refine def_by B 35 23 23 (k := 0) (N := ["known", "square", "x", "y", "own"]) rfl rfl ⟨rfl, rfl, rfl, by decide +kernel, rfl, by decide +kernel, by decide +kernel⟩ (fun _ _ _ _ _ _ us hl => match us, hl with | [_, _], _ => rfl) ?len ?body
  case len => rintro _ _ _ ⟨r, n, p, rfl, _⟩; rfl
  case body =>
    rintro X' h B _ M QD ⟨r, kvs, p, rfl, hn, q⟩
    refine wss_cons (ws_asg (DE.to (de_var h 1 rfl rfl rfl) (wg_tup h (wgs_cons h 2 rfl rfl (wgs_cons h 3 rfl rfl (wgs_nil ?_))) rfl)))
    have e : (pairsL r p).map spotD = ([(p.1, p.2 + 1), (p.1 + 1, p.2)].filter fun n => decide (n ∈ r)).map fun n => .tup [sqD p, sqD n] := by
      unfold pairsL
      rw [List.map_map]
      rfl
    rw [e] at q
    exact wss_one (ws_ret (DE.to (DO.frz (do_lcA h B [(p.1, p.2 + 1), (p.1 + 1, p.2)] sqD (fun n => decide (n ∈ r)) (fun n => .tup [sqD p, sqD n]) [("own", 4)] (tg_name h 4 rfl rfl (by simp)) rfl ⟨wi_tupE (de_tup (da_cons (de_tup (da_cons (de_var h 2 rfl rfl rfl) (da_cons (de_bin (de_var h 3 rfl rfl rfl) de_int (by walk_at "op")) da_nil))) (da_cons (de_tup (da_cons (de_bin (de_var h 2 rfl rfl rfl) de_int (by walk_at "op")) (da_cons (de_var h 3 rfl rfl rfl) da_nil))) da_nil))) rfl, by simp, fun x hx => ⟨_, rfl, fun X' ⟨h, B, _⟩ m =>
      dt_cmp (de_var h 4 rfl rfl rfl) (de_var h 0 rfl rfl rfl) (wo_inN h (sk_ok x) (sk_D x).symm .dic ⟨by rw [hn], rfl⟩), fun _ X' ⟨h, B, _⟩ m => (de_tup (da_cons (de_var h 1 rfl rfl rfl) (da_cons (de_var h 4 rfl rfl rfl) da_nil)))⟩⟩)) (.now q)))
end DL

set_option maxHeartbeats 4000000
/-! walks: spots, what fits. -/
namespace DL
open PySem PySem.Spec PyProof.Rows L2 Evl

local macro_rules
  | `(tactic| walk_at "op") => `(tactic| first
    | exact wo_add ⟨rfl, rfl⟩ | exact wo_sub ⟨rfl, rfl⟩ | exact wo_lt ⟨rfl, rfl⟩ | exact wo_le ⟨rfl, rfl⟩ | exact wo_gt ⟨rfl, rfl⟩ | exact wo_ge ⟨rfl, rfl⟩
    | exact wo_eqi ⟨rfl, rfl⟩ | exact wo_nei ⟨rfl, rfl⟩ | exact wo_eqb ⟨rfl, rfl⟩ | exact wo_neb ⟨rfl, rfl⟩ | exact wo_isN ⟨rfl, rfl⟩ | exact wo_notN ⟨rfl, rfl⟩)
  | `(tactic| walk_at "sq") => `(tactic| first | exact Sq.tup | exact Sq.lst | exact Sq.tupN | exact Sq.ref _ rfl)
  | `(tactic| walk_at "at") => `(tactic| first | rfl | assumption)
  | `(tactic| walk_at "isi") => `(tactic| first | exact wc_isI (by assumption) ⟨rfl, rfl⟩ | exact wc_isB (by assumption) ⟨rfl, rfl⟩ | exact wc_isT (by assumption) ⟨rfl, rfl⟩ | exact wc_isL (by assumption) ⟨rfl, rfl⟩ | exact wc_isLT (by assumption) ⟨rfl, rfl⟩ | exact wc_isBS (by assumption) ⟨rfl, rfl⟩)
  | `(tactic| walk_at "len") => `(tactic| exact wc_len (by first | exact Sq.tup | exact Sq.lst | exact Sq.tupN | exact Sq.ref _ rfl) ⟨rfl, rfl⟩)
  | `(tactic| walk_at "tuple") => `(tactic| exact wc_tuple (by first | exact Sq.lst | exact Sq.tup | exact Sq.tupN | exact Sq.ref _ rfl) ⟨rfl, rfl⟩)
  | `(tactic| walk_at "all") => `(tactic| exact wc_all (by assumption) (by first | exact SqO.lst | exact SqO.ref _ rfl) ⟨rfl, rfl⟩)

local macro_rules
  | `(tactic| walk_at "is_number") => `(tactic| exact ⟨_, rfl, by assumption, rfl, rfl⟩)
  | `(tactic| walk_at "tupled") => `(tactic| exact ⟨_, rfl, by assumption, rfl, rfl⟩)

def spotsL (r : List Pt) : List (List Pt) := (pointsL r).map four ++ r.flatMap fun s => [s] :: pairsL r s
theorem pairsL_len (r : List Pt) (p : Pt) : (pairsL r p).length ≤ 2 := by
  unfold pairsL
  rw [List.length_map]
  exact List.length_filter_le _ _
theorem pointsL_len (r : List Pt) : (pointsL r).length ≤ r.length := List.length_filter_le _ _
theorem flat_len {α β : Type} (f : α → List β) (n : Nat) : ∀ l : List α, (∀ x ∈ l, (f x).length ≤ n) → (l.flatMap f).length ≤ n * l.length
  | [], _ => by simp
  | x :: l, h => by
    have h1 := h x List.mem_cons_self
    have h2 := flat_len f n l fun y hy => h y (List.mem_cons_of_mem _ hy)
    rw [List.flatMap_cons, List.length_append, List.length_cons, Nat.mul_succ]
    omega
theorem spotsL_len (r : List Pt) : (spotsL r).length ≤ 4 * r.length := by
  unfold spotsL
  rw [List.length_append, List.length_map]
  have h1 := pointsL_len r
  have h2 := flat_len (fun s => [s] :: pairsL r s) 3 r fun s _ => by have := pairsL_len r s; simp; omega
  omega
theorem spot_alike (a c : List Pt) : PySem.W.alike (toPy (spotD a)) (toPy (spotD c)) = true := by
  simp only [spotD, toPy, PySem.W.alike]
  induction a generalizing c with
  | nil => simp [toPys, PySem.W.alikeAll]
  | cons p a ih =>
    cases c with
    | nil => simp [toPys, PySem.W.alikeAll]
    | cons q c => simp [toPys, toPy, PySem.W.alikeAll, PySem.W.alike, ih c]
theorem datB_sq (n : Nat) (p : Pt) : datB (n + 1) (sqD p) = true := by cases n <;> simp [datB]
theorem datB_spot (n : Nat) (l : List Pt) : datB (n + 2) (spotD l) = true := by
  simp only [spotD, datB, List.all_eq_true, List.mem_map]
  rintro d ⟨p, _, rfl⟩
  exact datB_sq n p
theorem spots_alike (L : List (List Pt)) : PySem.W.AllAlike ((L.map spotD).map toPy) := by
  intro d hd d' hd'
  obtain ⟨x, hx, rfl⟩ := List.mem_map.mp hd
  obtain ⟨y, hy, rfl⟩ := List.mem_map.mp hd'
  obtain ⟨a, _, rfl⟩ := List.mem_map.mp hx
  obtain ⟨c, _, rfl⟩ := List.mem_map.mp hy
  exact spot_alike a c
theorem spots_sortable (L : List (List Pt)) (h : ∀ l ∈ L, l ≠ []) : PySem.W.Sortable ((L.map spotD).map toPy) := .inl fun d hd => by
  obtain ⟨x, hx, rfl⟩ := List.mem_map.mp hd
  obtain ⟨a, ha, rfl⟩ := List.mem_map.mp hx
  cases a with
  | nil => exact absurd rfl (h _ ha)
  | cons p a => exact ⟨_, _, rfl⟩
theorem spots_ne (r : List Pt) : ∀ l ∈ spotsL r, l ≠ [] := by
  intro l hl
  unfold spotsL at hl
  rcases List.mem_append.mp hl with h | h
  · obtain ⟨p, _, rfl⟩ := List.mem_map.mp h
    simp [four]
  · obtain ⟨s, _, h⟩ := List.mem_flatMap.mp h
    rcases List.mem_cons.mp h with rfl | h
    · simp
    · unfold pairsL at h
      obtain ⟨n, _, rfl⟩ := List.mem_map.mp h
      simp
def s_spots_in : SpD := fun ds M Q => ∃ r : List Pt, ds = [roomD r] ∧ r.length ≤ 1000 ∧ ∀ L : List (List Pt), L.Perm (spotsL r) → Q (.lst (L.map spotD)) M
theorem ok_spots_in {X : Cx} (B : Bs X) : Dn X "spots_in" 3 ["room"] s_spots_in := by
  refine def_by B 36 24 24 (k := 2) (N := ["room", "known", "found", "point", "square"]) rfl rfl ⟨rfl, rfl, rfl, by decide +kernel, rfl, by decide +kernel, by decide +kernel⟩ (fun _ _ _ _ _ _ us hl => match us, hl with | [_], _ => rfl) ?len ?body
  case len => rintro _ _ _ ⟨r, rfl, _⟩; rfl
  case body =>
    rintro X' h B _ M QD ⟨r, rfl, hl, q⟩
    refine wss_cons (ws_par h 1 2 rfl rfl (by decide) rfl rfl (h.sw0 fun E e => by cases E; cases e; rfl) (we_call h (ok_known_of B) rfl (DA.to (da_cons (de_var h 0 rfl rfl rfl) da_nil) ⟨r, rfl, hl, fun kvs hk => ?_⟩)))
    refine DO.to (mo := .lst ((pointsL r).map fun p => spotD (four p))) (do_lcM h B (pointsL r) sqD (fun p => spotD (four p)) [("point", 3)] (tg_name h 3 rfl rfl (by simp)) rfl ⟨wi_lstE (de_call h (ok_points_in B) rfl (da_cons (de_var h 0 rfl rfl rfl) da_nil) ⟨r, rfl, hl, rfl, rfl⟩) rfl, by have := pointsL_len r; omega, fun p hp => ⟨_, rfl, fun X' ⟨h, B, _⟩ m => de_call h (ok_four_of B) rfl (da_cons (de_var h 3 rfl rfl rfl) da_nil) ⟨p, rfl, rfl, rfl⟩⟩⟩) fun p => ?_
    have sp := spotsL_len r
    refine wss_cons (ws_forT h r sqD (fun i ρ' M' => ∃ o, ρ' = [some (roomD r), some (.dic kvs), some (.ref p), none, o] ∧ M' = (p, .lst (((pointsL r).map four ++ (r.take i).flatMap fun s => [s] :: pairsL r s).map spotD)) :: M) (fi_tup (de_var h 0 rfl rfl rfl) rfl) ⟨none, rfl, by simp [List.map_map, Function.comp_def]⟩ ?_ ?_)
    · rintro i x ρ' M' hx ⟨o, rfl, rfl⟩
      have fl : ((r.take i).flatMap fun s => [s] :: pairsL r s).length ≤ 3 * r.length := by
        refine Nat.le_trans (flat_len _ 3 _ fun s _ => ?_) (Nat.mul_le_mul_left _ (by rw [List.length_take]; exact Nat.min_le_right _ _))
        have := pairsL_len r s
        simp; omega
      have pl := pointsL_len r
      have p2 := pairsL_len r x
      refine wg_name h 4 rfl rfl ?_
      refine wss_cons (ws_append 0 (de_var h 2 rfl rfl rfl) (de_tup (da_cons (de_var h 4 rfl rfl rfl) da_nil)) rfl (by simp only [List.length_map, List.length_append]; omega) ?_)
      refine wss_one (ws_extend 0 (de_var h 2 rfl rfl rfl) (de_call h (ok_pairs_from B) rfl (da_cons (de_var h 1 rfl rfl rfl) (da_cons (de_var h 4 rfl rfl rfl) da_nil)) ⟨r, kvs, x, rfl, hk, rfl, rfl⟩) rfl .lst (by simp only [List.length_map, List.length_append, List.length_singleton]; omega) ⟨_, rfl, ?_⟩)
      rw [take_flat _ hx]
      simp
    · rintro ρ' M' ⟨o, rfl, rfl⟩
      rw [List.take_length]
      have e : ((spotsL r).map spotD).mergeSort leD = ((spotsL r).mergeSort fun a c => leD (spotD a) (spotD c)).map spotD := by
        rw [List.map_mergeSort]
        intro a _ c _; rfl
      refine wss_one (ws_ret (DE.to (d := .lst (((spotsL r).mergeSort fun a c => leD (spotD a) (spotD c)).map spotD)) (DO.frz (mo := .lst _) (do_callB h rfl B.f_sorted boot_sorted (da_cons (de_var h 2 rfl rfl rfl) da_nil) (wc_sorted h (.ref 0 rfl) (fun d hd => ?_) (spots_alike (spotsL r)) (spots_sortable _ (spots_ne r)) fun p => ⟨p, rfl, by rw [← e]; rfl⟩))) ⟨_, _, [(p, _)], rfl, .id, q _ (List.mergeSort_perm _ _)⟩))
      obtain ⟨l, _, rfl⟩ := List.mem_map.mp hd
      exact datB_spot 48 l
end DL

set_option maxHeartbeats 4000000
/-! DL: the memory put in another order, let go, frozen. -/
namespace DL
open PySem PySem.Spec PyProof.Rows L2 Evl

section
variable {G : GX} {H : Hp} {M M' : MS}
theorem adr_perm (p : M.Perm M') : (adr M).Perm (adr M') := p.map _
theorem hid_perm (p : M.Perm M') : hid (adr M) H = hid (adr M') H := by
  funext a
  unfold hid
  have := (adr_perm p).mem_iff (a := a)
  by_cases h : a ∈ adr M
  · rw [if_pos h, if_pos (this.mp h)]
  · rw [if_neg h, if_neg fun q => h (this.mpr q)]
theorem MSt.perm (m : MSt G M H) (p : M.Perm M') : MSt G M' H :=
  ⟨(adr_perm p).nodup_iff.mp m.nd, fun x hx => by rw [← hid_perm p]; exact m.ok x (p.mem_iff.mpr hx)⟩
theorem At.perm {ρ : EnvD} {σ : L2.St} (a : At G ρ M σ H) (p : M.Perm M') : At G ρ M' σ H :=
  ⟨a.m.perm p, fun i d h => by rw [← hid_perm p]; exact a.env i d h, a.len⟩
theorem Fx.permL {M2 : MS} {H2 : Hp} (p : M.Perm M') (f : Fx M' H M2 H2) : Fx M H M2 H2 := by
  show Ex (hid (adr M) H) _
  rw [hid_perm p]
  exact f
theorem Fx.permR {M0 : MS} {H0 : Hp} (p : M.Perm M') (f : Fx M0 H0 M H) : Fx M0 H0 M' H := by
  show Ex _ (hid (adr M') H)
  rw [← hid_perm p]
  exact f
end
section
variable {X : Cx} {N : List Str} {sc : Scope} {k : Nat} {b : Bool} {ρ : EnvD} {M M1 M2 M' : MS} {pos : Pos} {Q : D → MS → Prop} {E : DEnds}
theorem wss_perm {st : List Stmt} (p : M.Perm M') (h : WSs X st ρ M' E) : WSs X st ρ M E := fun σ H a D l =>
  h σ H (a.perm p) D ⟨fun ρ2 M2 σ2 H2 q a2 f => l.nx ρ2 M2 σ2 H2 q a2 (Fx.permL p f), fun v d M2 H2 q m f r => l.rt v d M2 H2 q m (Fx.permL p f) r, fun ρ2 M2 σ2 H2 q a2 f => l.bk ρ2 M2 σ2 H2 q a2 (Fx.permL p f), fun ρ2 M2 σ2 H2 q a2 f => l.ct ρ2 M2 σ2 H2 q a2 (Fx.permL p f)⟩
/-- the end of statements: the memory in another order -/
theorem wss_permN {st : List Stmt} (h : WSs X st ρ M { E with nx := fun ρ' M' => ∃ M2, M'.Perm M2 ∧ E.nx ρ' M2 }) : WSs X st ρ M E := fun σ H a D l =>
  h σ H a D ⟨fun ρ2 M2 σ2 H2 ⟨M3, p, q⟩ a2 f => l.nx ρ2 M3 σ2 H2 q (a2.perm p) (Fx.permR p f), l.rt, l.bk, l.ct⟩
theorem we_permR {e : Expr} (h : WE X e ρ M fun d M' => ∃ M2, M'.Perm M2 ∧ Q d M2) : WE X e ρ M Q := fun σ H a Qv l =>
  h σ H a Qv fun v d M2 H2 ⟨M3, p, q⟩ m f r => l v d M3 H2 q (m.perm p) (Fx.permR p f) (by rw [← hid_perm p]; exact r)
/-- what is put first is let go -/
theorem wss_drop {st : List Stmt} {x : Addr × MO} (h : WSs X st ρ M E) : WSs X st ρ (x :: M) E := fun σ H a D l =>
  have f0 : Fx (x :: M) H M H := hid_tail
  h σ H ⟨a.m.drop, fun i d e => let ⟨v, h1, h2⟩ := a.env i d e; ⟨v, h1, h2.mono hid_tail⟩, a.len⟩ D (l.go f0)
/-- what is put first is frozen; the name at i holds it -/
theorem wss_fz {st : List Stmt} {p : Addr} {mo : MO} (i : Nat) (hi : ρ[i]? = some (some (.ref p))) (h : WSs X st (ρ.set i (some mo.frz)) M E) : WSs X st ρ ((p, mo) :: M) E := fun σ H a D l => by
  have f0 : Fx ((p, mo) :: M) H M H := hid_tail
  refine h σ H ⟨a.m.drop, fun j d e => ?_, by rw [List.length_set]; exact a.len⟩ D (l.go f0)
  by_cases ej : i = j
  · subst ej
    have hl : i < ρ.length := (List.getElem?_eq_some_iff.mp hi).1
    rw [List.getElem?_set_self hl] at e
    cases e
    obtain ⟨v, h1, h2⟩ := a.env i _ hi
    cases h2
    obtain ⟨o, h3, h4⟩ := a.m.ok (p, mo) List.mem_cons_self
    refine ⟨_, h1, MCt.rp (o := o) ?_ (h4.mono hid_tail)⟩
    unfold hid
    rw [if_neg (List.nodup_cons.mp a.m.nd).1]
    exact h3
  · rw [List.getElem?_set_ne ej] at e
    obtain ⟨v, h1, h2⟩ := a.env j d e
    exact ⟨v, h1, h2.mono hid_tail⟩
end
end DL

set_option maxHeartbeats 4000000
/-! walks: what is left, what fits. -/
namespace DL
open PySem PySem.Spec PyProof.Rows L2 Evl

local macro_rules
  | `(tactic| walk_at "op") => `(tactic| first
    | exact wo_add ⟨rfl, rfl⟩ | exact wo_sub ⟨rfl, rfl⟩ | exact wo_lt ⟨rfl, rfl⟩ | exact wo_le ⟨rfl, rfl⟩ | exact wo_gt ⟨rfl, rfl⟩ | exact wo_ge ⟨rfl, rfl⟩
    | exact wo_eqi ⟨rfl, rfl⟩ | exact wo_nei ⟨rfl, rfl⟩ | exact wo_eqb ⟨rfl, rfl⟩ | exact wo_neb ⟨rfl, rfl⟩ | exact wo_isN ⟨rfl, rfl⟩ | exact wo_notN ⟨rfl, rfl⟩)
  | `(tactic| walk_at "sq") => `(tactic| first | exact Sq.tup | exact Sq.lst | exact Sq.tupN | exact Sq.ref _ rfl)
  | `(tactic| walk_at "at") => `(tactic| first | rfl | assumption)
  | `(tactic| walk_at "isi") => `(tactic| first | exact wc_isI (by assumption) ⟨rfl, rfl⟩ | exact wc_isB (by assumption) ⟨rfl, rfl⟩ | exact wc_isT (by assumption) ⟨rfl, rfl⟩ | exact wc_isL (by assumption) ⟨rfl, rfl⟩ | exact wc_isLT (by assumption) ⟨rfl, rfl⟩ | exact wc_isBS (by assumption) ⟨rfl, rfl⟩)
  | `(tactic| walk_at "len") => `(tactic| exact wc_len (by first | exact Sq.tup | exact Sq.lst | exact Sq.tupN | exact Sq.ref _ rfl) ⟨rfl, rfl⟩)
  | `(tactic| walk_at "tuple") => `(tactic| exact wc_tuple (by first | exact Sq.lst | exact Sq.tup | exact Sq.tupN | exact Sq.ref _ rfl) ⟨rfl, rfl⟩)
  | `(tactic| walk_at "all") => `(tactic| exact wc_all (by assumption) (by first | exact SqO.lst | exact SqO.ref _ rfl) ⟨rfl, rfl⟩)

local macro_rules
  | `(tactic| walk_at "is_number") => `(tactic| exact ⟨_, rfl, by assumption, rfl, rfl⟩)
  | `(tactic| walk_at "tupled") => `(tactic| exact ⟨_, rfl, by assumption, rfl, rfl⟩)

abbrev Lets := List (Pt × List Int)
abbrev intsD (l : List Int) : D := .lst (l.map .int)
abbrev intsT (l : List Int) : D := .tup (l.map .int)
def letsP (l : Lets) : List (NK × D) := l.map fun x => (sk x.1, intsT x.2)
abbrev letsD (l : Lets) : D := .tupN (prD (letsP l))
/-- what is told of a square: the last word -/
def toldF (l : Lets) (s : Pt) : Option (List Int) := l.reverse.lookup s
def letF (l : Lets) (s : Pt) : List Int := (toldF l s).getD kindsL
def leftK (r : List Pt) (L : Pt → List Int) : List (NK × D) := tabN sk (fun s => intsD (L s)) r
theorem lk_letsP (s : Pt) : ∀ l : Lets, (l.map fun x => (sk x.1, intsT x.2)).lookup (sk s) = (l.lookup s).map intsT
  | [] => rfl
  | (p, ks) :: l => by
    rw [List.map_cons, lk_cons, lk_letsP s l]
    by_cases e : s = p
    · subst e; simp [List.lookup]
    · have n1 : ¬ sk s = sk p := fun q => e (sk_inj q)
      have n2 : (s == p) = false := by simpa using e
      simp only [n1, if_false, List.lookup, n2]
theorem told_at (l : Lets) (s : Pt) : (putsN [] (letsP l)).lookup (sk s) = (toldF l s).map intsT := by
  rw [lookup_putsN]
  simp only [List.lookup_nil, Option.or_none]
  unfold letsP toldF
  rw [← List.map_reverse]
  exact lk_letsP s l.reverse
theorem letsP_ok (l : Lets) : ∀ p ∈ letsP l, KOk p.1 := fun p hp => by
  obtain ⟨x, _, rfl⟩ := List.mem_map.mp hp
  exact sk_ok _
theorem told_get (l : Lets) (s : Pt) : ((putsN [] (letsP l)).lookup (sk s)).getD (intsT kindsL) = intsT (letF l s) := by
  rw [told_at]
  unfold letF
  cases toldF l s <;> rfl
theorem tab_ok {α : Type} {key : α → NK} {val : α → D} {l : List α} (h : ∀ a, KOk (key a)) : ∀ p ∈ tabN key val l, KOk p.1 := fun p hp => by
  obtain ⟨x, _, rfl⟩ := List.mem_map.mp hp
  exact h _
theorem tab_prD {α : Type} {key : α → NK} {val : α → D} {l : List α} : prD (tabN key val l) = l.map fun a => .tup [keyD (key a), val a] := by
  unfold prD tabN
  rw [List.map_map]
  rfl
def s_left_at_first : SpD := fun ds M Q => ∃ (r : List Pt) (l : Lets), ds = [roomD r, letsD l] ∧ r.Nodup ∧ r.length ≤ 1000 ∧ l.length ≤ 1000 ∧ ∀ p, Q (.ref p) ((p, .dic (leftK r (letF l))) :: M)
theorem ok_left_at_first {X : Cx} (B : Bs X) : Dn X "left_at_first" 1 ["room", "lets"] s_left_at_first := by
  refine def_by B 38 25 25 (k := 0) (N := ["room", "lets", "told", "square"]) rfl rfl ⟨rfl, rfl, rfl, by decide +kernel, rfl, by decide +kernel, by decide +kernel⟩ (fun _ _ _ _ _ _ us hl => match us, hl with | [_, _], _ => rfl) ?len ?body
  case len => rintro _ _ _ ⟨r, l, rfl, _⟩; rfl
  case body =>
    rintro X' h B _ M QD ⟨r, l, rfl, hn, hr, hl, q⟩
    refine wss_cons (ws_set h 2 rfl rfl (DO.to (do_callTy h rfl B.f_dict boot_dict (da_cons (de_var h 1 rfl rfl rfl) da_nil) (wc_dict h .t (letsP_ok l) (by simp [letsP]; omega) fun p => ⟨p, rfl, rfl⟩)) fun p => ?_))
    refine wss_one (ws_ret (we_permR (DO.to (mo := .dic (leftK r (letF l))) (do_callTy h rfl B.f_dict boot_dict (da_cons (DO.frz (do_lcM h B r sqD (fun s => .tup [keyD (sk s), intsD (letF l s)]) [("square", 3)] (tg_name h 3 rfl rfl (by simp)) rfl ⟨wi_tupE (de_var h 0 rfl rfl rfl) rfl, by omega, fun s hs => ⟨_, rfl, fun X' ⟨h, B, _⟩ m => ?_⟩⟩)) da_nil)
      (wc_dict h (.l (by rw [MO.frz, ← tab_prD (key := sk) (val := fun s => intsD (letF l s)) (l := r)]; exact .lst)) (tab_ok sk_ok) (by simp [tabN]; omega) fun p => ⟨p, rfl, by rw [tabN_puts (fun a b e => sk_inj e) hn]; rfl⟩)) fun p2 => ⟨_, .swap _ _ _, _, _, [(p, _)], rfl, .id, q p2⟩)))
    exact de_tup (da_cons (DE.as (de_var h 3 rfl rfl rfl) (sk_D s).symm) (da_cons (DO.frz (do_callTy h rfl B.f_list boot_list (da_cons (de_get h (.ref 1 rfl) (de_var h 2 rfl rfl rfl) (de_var h 3 rfl rfl rfl) (de_KINDS h B rfl) (sk_ok s) (sk_D s).symm (told_get l s)) da_nil) (wc_list .tup fun p => ⟨p, rfl, rfl⟩))) da_nil))
theorem anyD_ints (l : List Int) (i : Int) : anyD (l.map .int) (.int i) = decide (i ∈ l) := by
  unfold anyD
  rw [List.any_map]
  induction l with
  | nil => rfl
  | cons a l ih =>
    rw [List.any_cons, ih]
    have e : ((fun z => eqD z (D.int i)) ∘ D.int) a = decide (a = i) := by
      show PyData.eqv (.int a) (.int i) = _
      simp only [PyData.eqv]
      by_cases h : a = i
      · subst h; simp
      · simp [h]
    rw [e]
    by_cases h : a = i
    · subst h; simp
    · have h' : ¬ i = a := fun q => h q.symm
      simp [h, h']
def four1 (one below beside last : Int) : Bool := (decide (one ∈ [1, 2]) || (decide (below = 1) || decide (beside = 2))) && ((decide (below = 1) == decide (last = 3)) && (decide (beside = 2) == decide (last = 4)))
def fours3 (L3 : List Int) (one below beside : Int) : List (List Int) := (L3.filter (four1 one below beside)).map fun last => [one, below, beside, last]
def fours2 (L2 L3 : List Int) (one below : Int) : List (List Int) := (L2.filter fun k => decide (one = 1) == decide (k = 3)).flatMap (fours3 L3 one below)
def fours1 (L1 L2 L3 : List Int) (one : Int) : List (List Int) := (L1.filter fun k => decide (one = 2) == decide (k = 4)).flatMap (fours2 L2 L3 one)
def foursL (L0 L1 L2 L3 : List Int) : List (List Int) := L0.flatMap (fours1 L1 L2 L3)
theorem filter_len {α : Type} (p : α → Bool) (l : List α) (n : Nat) (h : l.length ≤ n) : (l.filter p).length ≤ n := Nat.le_trans (List.length_filter_le _ _) h
theorem flat_len2 {α β : Type} (f : α → List β) (n m : Nat) (l : List α) (h : ∀ x, (f x).length ≤ n) (hl : l.length ≤ m) : (l.flatMap f).length ≤ n * m := Nat.le_trans (flat_len f n l fun x _ => h x) (Nat.mul_le_mul_left _ hl)
theorem take_len {α : Type} (l : List α) (i n : Nat) (h : l.length ≤ n) : (l.take i).length ≤ n := by rw [List.length_take]; omega
section
variable {L0 L1 L2 L3 : List Int} (h0 : L0.length ≤ 5) (h1 : L1.length ≤ 5) (h2 : L2.length ≤ 5) (h3 : L3.length ≤ 5)
theorem fours3_len (h3 : L3.length ≤ 5) (a c d : Int) : (fours3 L3 a c d).length ≤ 5 := by
  unfold fours3
  rw [List.length_map]
  exact filter_len _ _ _ h3
theorem fours2_len (h2 : L2.length ≤ 5) (h3 : L3.length ≤ 5) (a c : Int) : (fours2 L2 L3 a c).length ≤ 5 * 5 := flat_len2 _ _ _ _ (fours3_len h3 a c) (filter_len _ _ _ h2)
theorem fours1_len (h1 : L1.length ≤ 5) (h2 : L2.length ≤ 5) (h3 : L3.length ≤ 5) (a : Int) : (fours1 L1 L2 L3 a).length ≤ 5 * 5 * 5 := flat_len2 _ _ _ _ (fours2_len h2 h3 a) (filter_len _ _ _ h1)
end
def s_fours_that_fit : SpD := fun ds M Q => ∃ L0 L1 L2 L3 : List Int, ds = [.lst [intsD L0, intsD L1, intsD L2, intsD L3]] ∧ L0.length ≤ 5 ∧ L1.length ≤ 5 ∧ L2.length ≤ 5 ∧ L3.length ≤ 5 ∧ Q (.lst ((foursL L0 L1 L2 L3).map intsT)) M
theorem ok_fours_that_fit {X : Cx} (B : Bs X) : Dn X "fours_that_fit" 1 ["lots"] s_fours_that_fit := by
  refine def_by B 39 26 26 (k := 0) (N := ["lots", "found", "one", "below", "kind", "beside", "is_met", "last"]) rfl rfl ⟨rfl, rfl, rfl, by decide +kernel, rfl, by decide +kernel, by decide +kernel⟩ (fun _ _ _ _ _ _ us hl => match us, hl with | [_], _ => rfl) ?len ?body
  case len => rintro _ _ _ ⟨_, _, _, _, rfl, _⟩; rfl
  case body =>
    rintro X' h B _ M QD ⟨L0, L1, L2, L3, rfl, h0, h1, h2, h3, q⟩
    generalize hlots : D.lst [intsD L0, intsD L1, intsD L2, intsD L3] = lots
    refine wss_cons (ws_set h 1 rfl rfl (DO.to (do_lst da_nil) fun p => ?_))
    refine wss_cons (ws_forT h L0 .int (fun i ρ' M' => ∃ o2 o3 o5 o6 o7, ρ' = [some lots, some (.ref p), o2, o3, none, o5, o6, o7] ∧ M' = (p, .lst (((L0.take i).flatMap (fours1 L1 L2 L3)).map intsT)) :: M) (fi_lst (de_ix (de_var h 0 rfl rfl rfl) de_int (by subst hlots; exact .lst) rfl) rfl) ⟨none, none, none, none, none, rfl, rfl⟩ ?_ ?_)
    · rintro i one ρ' M' hx ⟨o2, o3, o5, o6, o7, rfl, rfl⟩
      have l1 := flat_len2 _ _ _ (L0.take i) (fours1_len h1 h2 h3) (take_len _ i _ h0)
      refine wg_name h 2 rfl rfl ?_
      refine wss_one (ws_forT h (L1.filter fun k => decide (one = 2) == decide (k = 4)) .int (fun j ρ' M' => ∃ o3 o5 o6 o7, ρ' = [some lots, some (.ref p), some (.int one), o3, none, o5, o6, o7] ∧ M' = (p, .lst (((L0.take i).flatMap (fours1 L1 L2 L3) ++ ((L1.filter fun k => decide (one = 2) == decide (k = 4)).take j).flatMap (fours2 L2 L3 one)).map intsT)) :: M)
        (fi_lst (DO.frz (do_lcA h B L1 .int (fun k => decide (one = 2) == decide (k = 4)) .int [("kind", 4)] (tg_name h 4 rfl rfl (by simp)) rfl ⟨wi_lstE (de_ix (de_var h 0 rfl rfl rfl) de_int (by subst hlots; exact .lst) rfl) rfl, by omega, fun x hx => ⟨_, rfl, fun X' ⟨h, B, _⟩ m => (dt_cmp (de_cmp (de_var h 2 rfl rfl rfl) de_int (by walk_at "op")) (de_cmp (de_var h 4 rfl rfl rfl) de_int (by walk_at "op")) (by walk_at "op")), fun _ X' ⟨h, B, _⟩ m => (de_var h 4 rfl rfl rfl)⟩⟩)) rfl) ⟨_, _, _, _, rfl, by simp⟩ ?_ ?_)
      · rintro j below ρ' M' hj ⟨o3, o5, o6, o7, rfl, rfl⟩
        have l2 := flat_len2 _ _ _ ((L1.filter fun k => decide (one = 2) == decide (k = 4)).take j) (fours2_len h2 h3 one) (take_len _ j _ (filter_len _ _ _ h1))
        refine wg_name h 3 rfl rfl ?_
        refine wss_one (ws_forT h (L2.filter fun k => decide (one = 1) == decide (k = 3)) .int (fun t ρ' M' => ∃ o5 o6 o7, ρ' = [some lots, some (.ref p), some (.int one), some (.int below), none, o5, o6, o7] ∧ M' = (p, .lst (((L0.take i).flatMap (fours1 L1 L2 L3) ++ ((L1.filter fun k => decide (one = 2) == decide (k = 4)).take j).flatMap (fours2 L2 L3 one) ++ ((L2.filter fun k => decide (one = 1) == decide (k = 3)).take t).flatMap (fours3 L3 one below)).map intsT)) :: M)
          (fi_lst (DO.frz (do_lcA h B L2 .int (fun k => decide (one = 1) == decide (k = 3)) .int [("kind", 4)] (tg_name h 4 rfl rfl (by simp)) rfl ⟨wi_lstE (de_ix (de_var h 0 rfl rfl rfl) de_int (by subst hlots; exact .lst) rfl) rfl, by omega, fun x hx => ⟨_, rfl, fun X' ⟨h, B, _⟩ m => (dt_cmp (de_cmp (de_var h 2 rfl rfl rfl) de_int (by walk_at "op")) (de_cmp (de_var h 4 rfl rfl rfl) de_int (by walk_at "op")) (by walk_at "op")), fun _ X' ⟨h, B, _⟩ m => (de_var h 4 rfl rfl rfl)⟩⟩)) rfl) ⟨_, _, _, rfl, by simp⟩ ?_ ?_)
        · rintro t beside ρ' M' ht ⟨o5, o6, o7, rfl, rfl⟩
          have l3 := flat_len2 _ _ _ ((L2.filter fun k => decide (one = 1) == decide (k = 3)).take t) (fours3_len h3 one below) (take_len _ t _ (filter_len _ _ _ h2))
          refine wg_name h 5 rfl rfl ?_
          refine wss_cons (ws_set h 6 rfl rfl (DE.to (d := .bl (decide (one ∈ [1, 2]) || (decide (below = 1) || decide (beside = 2)))) (de_or (de_cmp (de_var h 2 rfl rfl rfl) (de_tup (da_cons de_int (da_cons de_int da_nil))) (wo_in h .id .tup rfl (by simp [datB]) ⟨congrArg D.bl (anyD_ints [1, 2] one), rfl⟩)) fun c => (de_or (de_cmp (de_var h 3 rfl rfl rfl) de_int (by walk_at "op")) fun c1 => (de_one (de_cmp (de_var h 5 rfl rfl rfl) de_int (by walk_at "op"))))) ?_))
          refine wss_one (ws_forT h L3 .int (fun u ρ' M' => ∃ o7, ρ' = [some lots, some (.ref p), some (.int one), some (.int below), none, some (.int beside), some (.bl (decide (one ∈ [1, 2]) || (decide (below = 1) || decide (beside = 2)))), o7] ∧ M' = (p, .lst (((L0.take i).flatMap (fours1 L1 L2 L3) ++ ((L1.filter fun k => decide (one = 2) == decide (k = 4)).take j).flatMap (fours2 L2 L3 one) ++ ((L2.filter fun k => decide (one = 1) == decide (k = 3)).take t).flatMap (fours3 L3 one below) ++ ((L3.take u).filter (four1 one below beside)).map fun last => [one, below, beside, last]).map intsT)) :: M)
            (fi_lst (de_ix (de_var h 0 rfl rfl rfl) de_int (by subst hlots; exact .lst) rfl) rfl) ⟨_, rfl, by simp⟩ ?_ ?_)
          · rintro u last ρ' M' hu ⟨o7, rfl, rfl⟩
            have l4 := filter_len (four1 one below beside) _ _ (take_len _ u _ h3)
            have e5 : ((L3.take (u + 1)).filter (four1 one below beside)).map (fun last => [one, below, beside, last]) = ((L3.take u).filter (four1 one below beside)).map (fun last => [one, below, beside, last]) ++ if four1 one below beside last = true then [[one, below, beside, last]] else [] := by
              rw [List.take_succ, hu, List.filter_append, List.map_append]
              by_cases c : four1 one below beside last = true <;> simp [c]
            refine wg_name h 7 rfl rfl ?_
            refine wss_one (ws_if (DT.to (d := four1 one below beside last) (dw_and (dt_val (de_var h 6 rfl rfl rfl)) fun c2 => (dw_and (dt_cmp (de_cmp (de_var h 3 rfl rfl rfl) de_int (by walk_at "op")) (de_cmp (de_var h 7 rfl rfl rfl) de_int (by walk_at "op")) (by walk_at "op")) fun c3 => (dw_and1 (dt_cmp (de_cmp (de_var h 5 rfl rfl rfl) de_int (by walk_at "op")) (de_cmp (de_var h 7 rfl rfl rfl) de_int (by walk_at "op")) (by walk_at "op"))))).dt ⟨fun c => ?_, fun c => wss_nil ⟨_, rfl, ?_⟩⟩))
            · refine wss_one (ws_append 0 (de_var h 1 rfl rfl rfl) (de_tup (da_cons (de_var h 2 rfl rfl rfl) (da_cons (de_var h 3 rfl rfl rfl) (da_cons (de_var h 5 rfl rfl rfl) (da_cons (de_var h 7 rfl rfl rfl) da_nil))))) rfl (by simp only [List.length_map, List.length_append]; omega) ⟨_, rfl, ?_⟩)
              rw [e5, if_pos c]
              simp
            · rw [e5, if_neg (by rw [c]; exact Bool.false_ne_true)]
              simp
          · rintro ρ' M' ⟨o7, rfl, rfl⟩
            refine ⟨_, _, _, rfl, ?_⟩
            rw [take_flat _ ht, List.take_length]
            simp [fours3]
        · rintro ρ' M' ⟨o5, o6, o7, rfl, rfl⟩
          refine ⟨_, _, _, _, rfl, ?_⟩
          rw [take_flat _ hj, List.take_length]
          simp [fours2]
      · rintro ρ' M' ⟨o3, o5, o6, o7, rfl, rfl⟩
        refine ⟨_, _, _, _, _, rfl, ?_⟩
        rw [take_flat _ hx, List.take_length]
        simp [fours1]
    · rintro ρ' M' ⟨o2, o3, o5, o6, o7, rfl, rfl⟩
      rw [List.take_length]
      exact wss_one (ws_ret (DE.to (de_var h 1 rfl rfl rfl) ⟨_, _, [(p, _)], rfl, .ref (List.mem_singleton.mpr rfl), q⟩))
end DL

set_option maxHeartbeats 4000000
/-! walks: what fits a spot, what is kept. -/
namespace DL
open PySem PySem.Spec PyProof.Rows L2 Evl

local macro_rules
  | `(tactic| walk_at "op") => `(tactic| first
    | exact wo_add ⟨rfl, rfl⟩ | exact wo_sub ⟨rfl, rfl⟩ | exact wo_lt ⟨rfl, rfl⟩ | exact wo_le ⟨rfl, rfl⟩ | exact wo_gt ⟨rfl, rfl⟩ | exact wo_ge ⟨rfl, rfl⟩
    | exact wo_eqi ⟨rfl, rfl⟩ | exact wo_nei ⟨rfl, rfl⟩ | exact wo_eqb ⟨rfl, rfl⟩ | exact wo_neb ⟨rfl, rfl⟩ | exact wo_isN ⟨rfl, rfl⟩ | exact wo_notN ⟨rfl, rfl⟩)
  | `(tactic| walk_at "sq") => `(tactic| first | exact Sq.tup | exact Sq.lst | exact Sq.tupN | exact Sq.ref _ rfl)
  | `(tactic| walk_at "at") => `(tactic| first | rfl | assumption)
  | `(tactic| walk_at "isi") => `(tactic| first | exact wc_isI (by assumption) ⟨rfl, rfl⟩ | exact wc_isB (by assumption) ⟨rfl, rfl⟩ | exact wc_isT (by assumption) ⟨rfl, rfl⟩ | exact wc_isL (by assumption) ⟨rfl, rfl⟩ | exact wc_isLT (by assumption) ⟨rfl, rfl⟩ | exact wc_isBS (by assumption) ⟨rfl, rfl⟩)
  | `(tactic| walk_at "len") => `(tactic| exact wc_len (by first | exact Sq.tup | exact Sq.lst | exact Sq.tupN | exact Sq.ref _ rfl) ⟨rfl, rfl⟩)
  | `(tactic| walk_at "tuple") => `(tactic| exact wc_tuple (by first | exact Sq.lst | exact Sq.tup | exact Sq.tupN | exact Sq.ref _ rfl) ⟨rfl, rfl⟩)
  | `(tactic| walk_at "all") => `(tactic| exact wc_all (by assumption) (by first | exact SqO.lst | exact SqO.ref _ rfl) ⟨rfl, rfl⟩)

local macro_rules
  | `(tactic| walk_at "is_number") => `(tactic| exact ⟨_, rfl, by assumption, rfl, rfl⟩)
  | `(tactic| walk_at "tupled") => `(tactic| exact ⟨_, rfl, by assumption, rfl, rfl⟩)

def twosL (s t : Pt) (L0 L1 : List Int) : List (List Int) := L0.flatMap fun a => (L1.filter (fits2 s t a)).map fun o => [a, o]
def s_twos_that_fit : SpD := fun ds M Q => ∃ (s t : Pt) (L0 L1 : List Int), ds = [spotD [s, t], .lst [intsD L0, intsD L1]] ∧ L0.length ≤ 5 ∧ L1.length ≤ 5 ∧ Q (.lst ((twosL s t L0 L1).map intsT)) M
theorem ok_twos_that_fit {X : Cx} (B : Bs X) : Dn X "twos_that_fit" 3 ["spot", "lots"] s_twos_that_fit := by
  refine def_by B 40 27 27 (k := 2) (N := ["spot", "lots", "found", "one", "other"]) rfl rfl ⟨rfl, rfl, rfl, by decide +kernel, rfl, by decide +kernel, by decide +kernel⟩ (fun _ _ _ _ _ _ us hl => match us, hl with | [_, _], _ => rfl) ?len ?body
  case len => rintro _ _ _ ⟨_, _, _, _, rfl, _⟩; rfl
  case body =>
    rintro X' h B _ M QD ⟨s, t, L0, L1, rfl, h0, h1, q⟩
    generalize hlots : D.lst [intsD L0, intsD L1] = lots
    refine wss_cons (ws_set h 2 rfl rfl (DO.to (do_lst da_nil) fun p => ?_))
    have f1 : ∀ a, ((L1.filter (fits2 s t a)).map fun o => [a, o]).length ≤ 5 := fun a => by rw [List.length_map]; exact filter_len _ _ _ h1
    refine wss_cons (ws_forT h L0 .int (fun i ρ' M' => ∃ o3, ρ' = [some (spotD [s, t]), some lots, some (.ref p), o3, none] ∧ M' = (p, .lst (((L0.take i).flatMap fun a => (L1.filter (fits2 s t a)).map fun o => [a, o]).map intsT)) :: M) (fi_lst (de_ix (de_var h 1 rfl rfl rfl) de_int (by subst hlots; exact .lst) rfl) rfl) ⟨none, rfl, rfl⟩ ?_ ?_)
    · rintro i a ρ' M' hx ⟨o3, rfl, rfl⟩
      have l1 := flat_len2 _ _ _ (L0.take i) f1 (take_len _ i _ h0)
      have l2 := f1 a
      refine wg_name h 3 rfl rfl ?_
      refine wss_one (ws_extend 0 (de_var h 2 rfl rfl rfl) (DO.frz (do_lcA h B L1 .int (fits2 s t a) (fun o => intsT [a, o]) [("other", 4)] (tg_name h 4 rfl rfl (by simp)) rfl ⟨wi_lstE (de_ix (de_var h 1 rfl rfl rfl) de_int (by subst hlots; exact .lst) rfl) rfl, by omega, fun o _ => ⟨_, rfl, fun X' ⟨h, B, _⟩ m => dt_val (de_call h (ok_fits_two B) rfl (da_cons (de_var h 0 rfl rfl rfl) (da_cons (de_tup (da_cons (de_var h 3 rfl rfl rfl) (da_cons (de_var h 4 rfl rfl rfl) da_nil))) da_nil)) ⟨s, t, a, o, rfl, rfl, rfl⟩), fun _ X' ⟨h, B, _⟩ m => (de_tup (da_cons (de_var h 3 rfl rfl rfl) (da_cons (de_var h 4 rfl rfl rfl) da_nil)))⟩⟩)) rfl .lst (by rw [List.length_map] at l2; simp only [List.length_map]; omega) ⟨_, rfl, ?_⟩)
      rw [take_flat _ hx]
      simp [List.map_map, Function.comp_def]
    · rintro ρ' M' ⟨o3, rfl, rfl⟩
      rw [List.take_length]
      exact wss_one (ws_ret (DE.to (de_var h 2 rfl rfl rfl) ⟨_, _, [(p, _)], rfl, .ref (List.mem_singleton.mpr rfl), q⟩))
/-- the rows of kinds that fit a spot -/
def fitL (r : List Pt) : List Pt → List (List Int) → List (List Int)
  | [_, _, _, _], [a, c, d, e] => foursL a c d e
  | [s, t], [a, c] => twosL s t a c
  | [s], [a] => (a.filter fun k => decide (k ∈ goodsL r s)).map fun k => [k]
  | _, _ => []
theorem fitL_len (r : List Pt) (spot : List Pt) (lots : List (List Int)) (h : ∀ l ∈ lots, l.length ≤ 5) : (fitL r spot lots).length ≤ 1000 := by
  unfold fitL
  split
  · rename_i a c d e
    have h0 := h a (by simp)
    have h1 := h c (by simp)
    have h2 := h d (by simp)
    have h3 := h e (by simp)
    exact Nat.le_trans (flat_len2 _ _ _ a (fours1_len h1 h2 h3) h0) (by decide)
  · rename_i s t a c
    have h0 := h a (by simp)
    have h1 := h c (by simp)
    exact Nat.le_trans (flat_len2 _ 5 _ a (fun x => by rw [List.length_map]; exact filter_len _ _ _ h1) h0) (by decide)
  · rename_i s a
    have h0 := h a (by simp)
    rw [List.length_map]
    exact Nat.le_trans (filter_len _ _ _ h0) (by decide)
  · simp
abbrev SpotLen (spot : List Pt) : Prop := spot.length = 4 ∨ spot.length = 2 ∨ spot.length = 1
def s_that_fit : SpD := fun ds M Q => ∃ (r : List Pt) (kvs : List (NK × D)) (spot : List Pt) (lots : List (List Int)), ds = [.dic kvs, spotD spot, .lst (lots.map intsD)] ∧ Kn r kvs ∧ SpotLen spot ∧ lots.length = spot.length ∧ (∀ l ∈ lots, l.length ≤ 5) ∧ Q (.lst ((fitL r spot lots).map intsT)) M
theorem ok_that_fit {X : Cx} (B : Bs X) : Dn X "that_fit" 4 ["known", "spot", "lots"] s_that_fit := by
  refine def_by B 41 28 28 (k := 3) (N := ["known", "spot", "lots", "goods", "kind"]) rfl rfl ⟨rfl, rfl, rfl, by decide +kernel, rfl, by decide +kernel, by decide +kernel⟩ (fun _ _ _ _ _ _ us hl => match us, hl with | [_, _, _], _ => rfl) ?len ?body
  case len => rintro _ _ _ ⟨_, _, _, _, rfl, _⟩; rfl
  case body =>
    rintro X' h B _ M QD ⟨r, kvs, spot, lots, rfl, hk, hs, hl, h5, q⟩
    rcases hs with e | e | e
    · match spot, lots, e, hl with
      | [s, t, u, v], [a, c, d, f], _, _ =>
        refine wss_cons (ws_if (DT.to (d := true) (dt_cmp (de_callB h rfl B.f_len boot_len (da_cons (de_var h 1 rfl rfl rfl) da_nil) (by walk_at "len")) de_int (by walk_at "op")) ⟨fun _ => wss_one (ws_ret (DE.to (de_call h (ok_fours_that_fit B) rfl (da_cons (de_var h 2 rfl rfl rfl) da_nil) ⟨a, c, d, f, rfl, h5 _ (by simp), h5 _ (by simp), h5 _ (by simp), h5 _ (by simp), rfl, rfl⟩) (.now q))), fun c => (nomatch c)⟩))
    · match spot, lots, e, hl with
      | [s, t], [a, c], _, _ =>
        refine wss_cons (ws_if (DT.to (d := false) (dt_cmp (de_callB h rfl B.f_len boot_len (da_cons (de_var h 1 rfl rfl rfl) da_nil) (by walk_at "len")) de_int (by walk_at "op")) ⟨fun c => (nomatch c), fun _ => wss_nil ?_⟩))
        refine wss_cons (ws_if (DT.to (d := true) (dt_cmp (de_callB h rfl B.f_len boot_len (da_cons (de_var h 1 rfl rfl rfl) da_nil) (by walk_at "len")) de_int (by walk_at "op")) ⟨fun _ => wss_one (ws_ret (DE.to (de_call h (ok_twos_that_fit B) rfl (da_cons (de_var h 1 rfl rfl rfl) (da_cons (de_var h 2 rfl rfl rfl) da_nil)) ⟨s, t, a, c, rfl, h5 _ (by simp), h5 _ (by simp), rfl, rfl⟩) (.now q))), fun c => (nomatch c)⟩))
    · match spot, lots, e, hl with
      | [s], [a], _, _ =>
        refine wss_cons (ws_if (DT.to (d := false) (dt_cmp (de_callB h rfl B.f_len boot_len (da_cons (de_var h 1 rfl rfl rfl) da_nil) (by walk_at "len")) de_int (by walk_at "op")) ⟨fun c => (nomatch c), fun _ => wss_nil ?_⟩))
        refine wss_cons (ws_if (DT.to (d := false) (dt_cmp (de_callB h rfl B.f_len boot_len (da_cons (de_var h 1 rfl rfl rfl) da_nil) (by walk_at "len")) de_int (by walk_at "op")) ⟨fun c => (nomatch c), fun _ => wss_nil ?_⟩))
        have h0 := h5 a (by simp)
        refine wss_cons (ws_set h 3 rfl rfl (DE.to (de_call h (ok_kinds_in B) rfl (da_cons (de_var h 0 rfl rfl rfl) (da_cons (de_ix (de_var h 1 rfl rfl rfl) de_int (by walk_at "sq") (by walk_at "at")) da_nil)) ⟨r, kvs, s, rfl, hk, rfl, rfl⟩) ?_))
        refine wss_one (ws_ret (DE.to (d := .lst ((fitL r [s] [a]).map intsT)) (DE.as (DO.frz (do_lcA h B a .int (fun k => decide (k ∈ goodsL r s)) (fun k => intsT [k]) [("kind", 4)] (tg_name h 4 rfl rfl (by simp)) rfl ⟨wi_lstE (de_ix (de_var h 2 rfl rfl rfl) de_int (by walk_at "sq") (by walk_at "at")) rfl, by omega, fun k hk => ⟨_, rfl, fun X' ⟨h, B, _⟩ m => ?_, fun _ X' ⟨h, B, _⟩ m => (de_tup (da_cons (de_var h 4 rfl rfl rfl) da_nil))⟩⟩)) (by simp [fitL, List.map_map, Function.comp_def, MO.frz])) (.now q)))
        exact dt_cmp (de_var h 4 rfl rfl rfl) (de_var h 3 rfl rfl rfl) (wo_in h .id .lst rfl (fun e he => by obtain ⟨x, _, rfl⟩ := List.mem_map.mp he; rfl) ⟨congrArg D.bl (anyD_ints _ k), rfl⟩)
/-- a table of whole numbers that holds just these -/
def Hs (kvs : List (Int × D)) (P : Int → Bool) : Prop := ∀ k, (kvs.lookup k).isSome = P k
theorem keys_putI (kvs : List (Int × D)) (i : Int) (d : D) (x : Int) : ((putI kvs i d).lookup x).isSome = (decide (x = i) || (kvs.lookup x).isSome) := by
  unfold putI
  split
  · rename_i h
    rw [lk_rep]
    by_cases e : x = i
    · subst e; simp [h]
    · simp [e]
  · rw [lk_app, lk_cons]
    by_cases e : x = i
    · subst e; simp
    · simp [e]
theorem keys_putsI (x : Int) : ∀ (ps kvs : List (Int × D)), ((putsI kvs ps).lookup x).isSome = (decide (x ∈ ps.map (·.1)) || (kvs.lookup x).isSome)
  | [], kvs => by simp [putsI]
  | p :: ps, kvs => by
    have h : putsI kvs (p :: ps) = putsI (putI kvs p.1 p.2) ps := rfl
    rw [h, keys_putsI x ps, keys_putI, List.map_cons]
    by_cases e : x = p.1
    · subst e; simp
    · simp only [List.mem_cons, e, false_or, decide_false, Bool.false_or]
/-- the kinds that rows hold at a place -/
def atRows (rows : List (List Int)) (i : Nat) (k : Int) : Bool := decide (k ∈ rows.map fun row => row.getD i 0)
theorem fit_row (r spot : List Pt) (lots : List (List Int)) : ∀ row ∈ fitL r spot lots, row.length = spot.length := by
  intro row hr
  unfold fitL at hr
  split at hr
  · simp only [foursL, fours1, fours2, fours3, List.mem_flatMap, List.mem_map] at hr
    obtain ⟨_, _, _, _, _, _, _, _, rfl⟩ := hr
    rfl
  · simp only [twosL, List.mem_flatMap, List.mem_map] at hr
    obtain ⟨_, _, _, _, rfl⟩ := hr
    rfl
  · simp only [List.mem_map] at hr
    obtain ⟨_, _, rfl⟩ := hr
    rfl
  · simp at hr
/-- a dict of what is left -/
inductive LfD (M : MS) (r : List Pt) (L : Pt → List Int) : D → Prop
  | dic : LfD M r L (.dic (leftK r L))
  | ref {p : Addr} (k : Nat) (h : M[k]? = some (p, .dic (leftK r L))) : LfD M r L (.ref p)
theorem LfD.dc {M : MS} {r : List Pt} {L : Pt → List Int} {d : D} : LfD M r L d → Dc M d (leftK r L)
  | .dic => .dic
  | .ref k h => .ref k h
theorem LfD.cons {M : MS} {r : List Pt} {L : Pt → List Int} {d : D} {m : Addr × MO} : LfD M r L d → LfD (m :: M) r L d
  | .dic => .dic
  | .ref k h => .ref (k + 1) h
theorem left_at {r : List Pt} {L : Pt → List Int} {s : Pt} (h : s ∈ r) : (leftK r L).lookup (sk s) = some (intsD (L s)) := by
  unfold leftK
  rw [tabN_at fun a b e => sk_inj e, if_pos h]
def s_kept_by : SpD := fun ds M Q => ∃ (r : List Pt) (kvs : List (NK × D)) (dl : D) (L : Pt → List Int) (spot : List Pt), ds = [.dic kvs, dl, spotD spot] ∧ Kn r kvs ∧ LfD M r L dl ∧ SpotLen spot ∧ (∀ s ∈ spot, s ∈ r) ∧ (∀ s ∈ r, (L s).length ≤ 5) ∧
  ∀ ks : List (List (Int × D)), ks.length = spot.length → (∀ i, i < spot.length → Hs (ks.getD i []) (atRows (fitL r spot (spot.map L)) i)) → Q (.lst (ks.map .dik)) M
theorem ok_kept_by {X : Cx} (B : Bs X) : Dn X "kept_by" 5 ["known", "left", "spot"] s_kept_by := by
  refine def_by B 42 29 29 (k := 4) (N := ["known", "left", "spot", "rows", "square", "row", "place"]) rfl rfl ⟨rfl, rfl, rfl, by decide +kernel, rfl, by decide +kernel, by decide +kernel⟩ (fun _ _ _ _ _ _ us hl => match us, hl with | [_, _, _], _ => rfl) ?len ?body
  case len => rintro _ _ _ ⟨_, _, _, _, _, rfl, _⟩; rfl
  case body =>
    rintro X' h B _ M QD ⟨r, kvs, dl, L, spot, rfl, hk, hd, hs, hin, h5, q⟩
    have hsl : spot.length ≤ 4 := by rcases hs with e | e | e <;> omega
    have fl := fitL_len r spot (spot.map L) (fun l hl => by obtain ⟨s, h1, rfl⟩ := List.mem_map.mp hl; exact h5 s (hin s h1))
    refine wss_cons (ws_set h 3 rfl rfl (DE.to (de_call h (ok_that_fit B) rfl (da_cons (de_var h 0 rfl rfl rfl) (da_cons (de_var h 2 rfl rfl rfl) (da_cons (DO.frz (do_lcM h B spot sqD (fun s => intsD (L s)) [("square", 4)] (tg_name h 4 rfl rfl (by simp)) rfl ⟨wi_tupE (de_var h 2 rfl rfl rfl) rfl, by omega, fun s hs' => ⟨_, rfl, fun X' ⟨h, B, _⟩ m => de_at h hd.cons.dc (de_var h 1 rfl rfl rfl) (de_var h 4 rfl rfl rfl) (sk_ok s) (sk_D s).symm (left_at (hin s hs'))⟩⟩)) da_nil)))
      ⟨r, kvs, spot, spot.map L, by simp [MO.frz, List.map_map, Function.comp_def], hk, hs, by simp, fun l hl => by obtain ⟨s, h1, rfl⟩ := List.mem_map.mp hl; exact h5 s (hin s h1), rfl, rfl⟩) ?_))
    refine wss_one (ws_ret (DE.to (d := .lst ((List.range spot.length).map fun (i : Nat) => .dik (putsI [] ((fitL r spot (spot.map L)).map fun row => (row.getD i 0, .bl true))))) (DO.frz (mo := .lst _) (do_lcM h B (List.range spot.length) (fun (i : Nat) => .int (i : Int)) (fun (i : Nat) => .dik (putsI [] ((fitL r spot (spot.map L)).map fun row => (row.getD i 0, .bl true)))) [("place", 6)] (tg_name h 6 rfl rfl (by simp)) rfl ⟨wi_rngE h rfl B.f_range (DE.as (de_callB h rfl B.f_len boot_len (da_cons (de_var h 2 rfl rfl rfl) da_nil) (by walk_at "len")) (by rw [List.length_map])) (by omega) (by omega) (by simp), by simp; omega, fun i hi => ⟨_, rfl, fun X' ⟨h, B, _⟩ m => ?_⟩⟩)) (.now ?_)))
    · have q2 := q ((List.range spot.length).map fun (i : Nat) => putsI [] ((fitL r spot (spot.map L)).map fun row => (row.getD i 0, .bl true))) (by simp) fun i hi k => ?_
      · rw [List.map_map] at q2; exact q2
      · have e : ((List.range spot.length).map fun (i : Nat) => putsI [] ((fitL r spot (spot.map L)).map fun row => (row.getD i 0, D.bl true))).getD i [] = putsI [] ((fitL r spot (spot.map L)).map fun row => (row.getD i 0, D.bl true)) := by
          rw [List.getD_eq_getElem?_getD, List.getElem?_map, List.getElem?_range hi]; rfl
        rw [e, keys_putsI]
        simp [atRows, List.map_map, Function.comp_def]
    · have hi := List.mem_range.mp hi
      refine DO.frz (mo := .dik _) (do_callTy h rfl B.f_dict boot_dict (da_cons (DO.frz (do_lcM h B (fitL r spot (spot.map L)) intsT (fun row => .tup [.int (row.getD i 0), .bl true]) [("row", 5)] (tg_name h 5 rfl rfl (by simp)) rfl ⟨wi_lstE (de_var h 3 rfl rfl rfl) rfl, by omega, fun row hrow => ⟨_, rfl, fun X' ⟨h, B, _⟩ m => ?_⟩⟩)) da_nil) (wc_dictI h (by simp only [prI, List.map_map, Function.comp_def]; exact .lst) fun p => ⟨p, rfl, rfl⟩))
      have hl := fit_row r spot _ row hrow
      have g1 : L2.atI (row.map D.int) (i : Int) = some (.int (row.getD i 0)) := L2.atI_nat (by rw [List.getElem?_map, List.getD_eq_getElem?_getD, List.getElem?_eq_getElem (by omega)]; rfl)
      exact de_tup (da_cons (de_ix (de_var h 5 rfl rfl rfl) (de_var h 6 rfl rfl rfl) .tup g1) (da_cons de_bl da_nil))
end DL

set_option maxHeartbeats 4000000
/-! rows that fit, strikes. -/
namespace DL
open PySem PySem.Spec PyProof.Rows L2 Evl

abbrev Lf := Pt → List Int
/-- a row of kinds suits a spot -/
def okRow (r : List Pt) : List Pt → List Int → Bool
  | [_, _, _, _], [a, c, d, e] => (decide (a = 2) == decide (c = 4)) && (decide (a = 1) == decide (d = 3)) && four1 a c d e
  | [s, t], [a, c] => fits2 s t a c
  | [s], [a] => decide (a ∈ goodsL r s)
  | _, _ => false
/-- a row of what is left -/
def RowIn (r : List Pt) (L : Lf) (spot : List Pt) (row : List Int) : Prop := row.length = spot.length ∧ (∀ i s, spot[i]? = some s → row.getD i 0 ∈ L s) ∧ okRow r spot row = true
theorem mem_fit (r : List Pt) (L : Lf) (spot : List Pt) (hs : SpotLen spot) (row : List Int) : row ∈ fitL r spot (spot.map L) ↔ RowIn r L spot row := by
  rcases hs with e | e | e
  · match spot, e with
    | [s, t, u, v], _ =>
      constructor
      · intro h
        simp only [List.map_cons, List.map_nil, fitL, foursL, fours1, fours2, fours3, List.mem_flatMap, List.mem_map, List.mem_filter] at h
        obtain ⟨a, ha, c, ⟨hc, h1⟩, d, ⟨hd, h2⟩, e, ⟨he, h3⟩, rfl⟩ := h
        refine ⟨rfl, fun i x hx => ?_, by simp only [okRow, h1, h2, h3, Bool.and_self]⟩
        match i, hx with
        | 0, hx => cases hx; exact ha
        | 1, hx => cases hx; exact hc
        | 2, hx => cases hx; exact hd
        | 3, hx => cases hx; exact he
        | i + 4, hx => simp at hx
      · rintro ⟨hl, hm, ho⟩
        match row, hl with
        | [a, c, d, e], _ =>
          simp only [okRow, Bool.and_eq_true] at ho
          simp only [List.map_cons, List.map_nil, fitL, foursL, fours1, fours2, fours3, List.mem_flatMap, List.mem_map, List.mem_filter]
          exact ⟨a, hm 0 s rfl, c, ⟨hm 1 t rfl, ho.1.1⟩, d, ⟨hm 2 u rfl, ho.1.2⟩, e, ⟨hm 3 v rfl, ho.2⟩, rfl⟩
  · match spot, e with
    | [s, t], _ =>
      constructor
      · intro h
        simp only [List.map_cons, List.map_nil, fitL, twosL, List.mem_flatMap, List.mem_map, List.mem_filter] at h
        obtain ⟨a, ha, c, ⟨hc, h1⟩, rfl⟩ := h
        refine ⟨rfl, fun i x hx => ?_, h1⟩
        match i, hx with
        | 0, hx => cases hx; exact ha
        | 1, hx => cases hx; exact hc
        | i + 2, hx => simp at hx
      · rintro ⟨hl, hm, ho⟩
        match row, hl with
        | [a, c], _ =>
          simp only [List.map_cons, List.map_nil, fitL, twosL, List.mem_flatMap, List.mem_map, List.mem_filter]
          exact ⟨a, hm 0 s rfl, c, ⟨hm 1 t rfl, ho⟩, rfl⟩
  · match spot, e with
    | [s], _ =>
      constructor
      · intro h
        simp only [List.map_cons, List.map_nil, fitL, List.mem_map, List.mem_filter] at h
        obtain ⟨a, ⟨ha, h1⟩, rfl⟩ := h
        refine ⟨rfl, fun i x hx => ?_, h1⟩
        match i, hx with
        | 0, hx => cases hx; exact ha
        | i + 1, hx => simp at hx
      · rintro ⟨hl, hm, ho⟩
        match row, hl with
        | [a], _ =>
          simp only [List.map_cons, List.map_nil, fitL, List.mem_map, List.mem_filter]
          exact ⟨a, ⟨hm 0 s rfl, ho⟩, rfl⟩
/-- what is left holds within -/
def LeF (r : List Pt) (L L' : Lf) : Prop := ∀ s ∈ r, ∀ k ∈ L s, k ∈ L' s
theorem LeF.refl {r : List Pt} {L : Lf} : LeF r L L := fun _ _ _ h => h
theorem LeF.trans {r : List Pt} {L L' L2 : Lf} (h : LeF r L L') (g : LeF r L' L2) : LeF r L L2 := fun s hs k hk => g s hs k (h s hs k hk)
theorem RowIn.mono {r : List Pt} {L L' : Lf} {spot : List Pt} {row : List Int} (hin : ∀ s ∈ spot, s ∈ r) (le : LeF r L L') (h : RowIn r L spot row) : RowIn r L' spot row :=
  ⟨h.1, fun i s hs => le s (hin s (List.mem_of_getElem? hs)) _ (h.2.1 i s hs), h.2.2⟩
/-- kind k at place i of the spot stands in a row -/
def Sup (r : List Pt) (L : Lf) (spot : List Pt) (i : Nat) (k : Int) : Prop := ∃ row, RowIn r L spot row ∧ row.getD i 0 = k
theorem sup_iff (r : List Pt) (L : Lf) (spot : List Pt) (hs : SpotLen spot) (i : Nat) (k : Int) : atRows (fitL r spot (spot.map L)) i k = true ↔ Sup r L spot i k := by
  unfold atRows Sup
  rw [decide_eq_true_iff, List.mem_map]
  exact ⟨fun ⟨row, h1, h2⟩ => ⟨row, (mem_fit r L spot hs row).mp h1, h2⟩, fun ⟨row, h1, h2⟩ => ⟨row, (mem_fit r L spot hs row).mpr h1, h2⟩⟩
theorem Sup.mono {r : List Pt} {L L' : Lf} {spot : List Pt} {i : Nat} {k : Int} (hin : ∀ s ∈ spot, s ∈ r) (le : LeF r L L') (h : Sup r L spot i k) : Sup r L' spot i k := let ⟨row, h1, h2⟩ := h; ⟨row, h1.mono hin le, h2⟩
theorem four_mem {p : Pt} {r : List Pt} (h : nearAll r (four p) = true) : ∀ s ∈ four p, s ∈ r := fun s hs => of_decide_eq_true (List.all_eq_true.mp h s hs)
theorem spots_in_room (r : List Pt) : ∀ spot ∈ spotsL r, SpotLen spot ∧ ∀ s ∈ spot, s ∈ r := by
  intro spot h
  unfold spotsL at h
  rcases List.mem_append.mp h with h | h
  · obtain ⟨p, hp, rfl⟩ := List.mem_map.mp h
    exact ⟨.inl rfl, four_mem (List.mem_filter.mp hp).2⟩
  · obtain ⟨s, hs, h⟩ := List.mem_flatMap.mp h
    rcases List.mem_cons.mp h with rfl | h
    · exact ⟨.inr (.inr rfl), fun x hx => by rw [List.mem_singleton.mp hx]; exact hs⟩
    · unfold pairsL at h
      obtain ⟨n, hn, rfl⟩ := List.mem_map.mp h
      refine ⟨.inr (.inl rfl), fun x hx => ?_⟩
      rcases List.mem_cons.mp hx with rfl | hx
      · exact hs
      · rw [List.mem_singleton.mp hx]; exact of_decide_eq_true (List.mem_filter.mp hn).2
/-- the squares of a spot differ -/
theorem spots_nodup (r : List Pt) : ∀ spot ∈ spotsL r, spot.Nodup := by
  intro spot h
  unfold spotsL at h
  rcases List.mem_append.mp h with h | h
  · obtain ⟨p, hp, rfl⟩ := List.mem_map.mp h
    simp only [four, List.nodup_cons, List.mem_cons, Prod.mk.injEq, List.not_mem_nil, or_false, not_or, not_false_iff, List.nodup_nil, and_true]
    refine ⟨⟨?_, ?_, ?_⟩, ⟨?_, ?_⟩, ?_⟩ <;> intro q <;> omega
  · obtain ⟨s, hs, h⟩ := List.mem_flatMap.mp h
    rcases List.mem_cons.mp h with rfl | h
    · simp
    · unfold pairsL at h
      obtain ⟨n, hn, rfl⟩ := List.mem_map.mp h
      have hn := (List.mem_filter.mp hn).1
      simp only [List.nodup_cons, List.mem_singleton, List.not_mem_nil, not_false_iff, List.nodup_nil, and_true]
      intro e
      subst e
      simp only [List.mem_cons, List.not_mem_nil, or_false] at hn
      rcases hn with e | e
      · have := congrArg Prod.snd e; simp at this; omega
      · have := congrArg Prod.fst e; simp at this; omega
abbrev Stp := Pt × Int × List Pt
def updL (L : Lf) (s : Pt) (ks : List Int) : Lf := fun x => if x = s then ks else L x
def struck1 (L : Lf) (st : Stp) : Lf := updL L st.1 ((L st.1).filter fun k => decide (k ≠ st.2.1))
/-- a strike that stands -/
def Good (r : List Pt) (L : Lf) (st : Stp) : Prop := st.2.2 ∈ spotsL r ∧ ∃ i, st.2.2[i]? = some st.1 ∧ st.2.1 ∈ L st.1 ∧ ¬ Sup r L st.2.2 i st.2.1
inductive Rep (r : List Pt) : Lf → List Stp → Lf → Prop
  | nil (L : Lf) : Rep r L [] L
  | snoc {L L' : Lf} {sts : List Stp} {st : Stp} : Rep r L sts L' → Good r L' st → Rep r L (sts ++ [st]) (struck1 L' st)
theorem struck1_le {r : List Pt} {L : Lf} {st : Stp} : LeF r (struck1 L st) L := fun s _ k hk => by
  unfold struck1 updL at hk
  split at hk
  · rename_i e; subst e; exact (List.mem_filter.mp hk).1
  · exact hk
theorem Rep.le {r : List Pt} {L L' : Lf} {sts : List Stp} (h : Rep r L sts L') : LeF r L' L := by
  induction h with
  | nil => exact LeF.refl
  | snoc _ _ ih => exact struck1_le.trans ih
/-- the kinds that are left, counted -/
def cntL (r : List Pt) (L : Lf) : Nat := (r.map fun s => (L s).length).sum
theorem sum_le {α : Type} {f g : α → Nat} : ∀ {l : List α}, (∀ x ∈ l, f x ≤ g x) → (l.map f).sum ≤ (l.map g).sum
  | [], _ => Nat.le_refl _
  | x :: l, h => by
    simp only [List.map_cons, List.sum_cons]
    have h1 := h x List.mem_cons_self
    have h2 := sum_le fun y hy => h y (List.mem_cons_of_mem x hy)
    omega
theorem sum_lt {α : Type} {f g : α → Nat} {a : α} : ∀ {l : List α}, (∀ x ∈ l, f x ≤ g x) → a ∈ l → f a < g a → (l.map f).sum < (l.map g).sum
  | x :: l, h, m, q => by
    simp only [List.map_cons, List.sum_cons]
    have h1 := h x List.mem_cons_self
    rcases List.mem_cons.mp m with e | m
    · subst e
      have h2 := sum_le fun y hy => h y (List.mem_cons_of_mem a hy)
      omega
    · have h2 := sum_lt (fun y hy => h y (List.mem_cons_of_mem x hy)) m q
      omega
theorem filter_lt {α : Type} {p : α → Bool} {a : α} {l : List α} (h : a ∈ l) (hp : p a = false) : (l.filter p).length < l.length := by
  induction l with
  | nil => cases h
  | cons x l ih =>
    rcases List.mem_cons.mp h with e | m
    · subst e
      rw [List.filter_cons_of_neg (by rw [hp]; exact Bool.false_ne_true)]
      have := List.length_filter_le p l
      rw [List.length_cons]; omega
    · by_cases q : p x = true
      · rw [List.filter_cons_of_pos q]
        have := ih m
        rw [List.length_cons, List.length_cons]; omega
      · rw [List.filter_cons_of_neg q]
        have := ih m
        rw [List.length_cons]; omega
theorem cnt_upd {r : List Pt} {L : Lf} {s : Pt} {ks : List Int} (hs : s ∈ r) (h : ks.length < (L s).length) : cntL r (updL L s ks) < cntL r L := by
  refine sum_lt (fun x _ => ?_) hs ?_
  · unfold updL
    split
    · rename_i e; subst e; exact Nat.le_of_lt h
    · exact Nat.le_refl _
  · simp [updL, h]
theorem Rep.cnt {r : List Pt} {L L' : Lf} {sts : List Stp} (h : Rep r L sts L') : sts.length + cntL r L' ≤ cntL r L := by
  induction h with
  | nil => simp
  | @snoc L' sts st _ g ih =>
    obtain ⟨h1, i, h2, h3, h4⟩ := g
    have hs : st.1 ∈ r := (spots_in_room r _ h1).2 _ (List.mem_of_getElem? h2)
    have := cnt_upd (L := L') (ks := (L' st.1).filter fun k => decide (k ≠ st.2.1)) hs (filter_lt h3 (by simp))
    unfold struck1
    rw [List.length_append, List.length_singleton]
    omega
theorem Rep.app {r : List Pt} {L L' L2 : Lf} {as bs : List Stp} (h : Rep r L as L') (g : Rep r L' bs L2) : Rep r L (as ++ bs) L2 := by
  induction g with
  | nil => rw [List.append_nil]; exact h
  | snoc _ q ih => rw [← List.append_assoc]; exact .snoc ih q
/-- a family that holds together -/
def Cons (r : List Pt) (G : Lf) : Prop := ∀ spot ∈ spotsL r, ∀ (i : Nat) (s : Pt), spot[i]? = some s → ∀ k ∈ G s, Sup r G spot i k
theorem Good.keeps {r : List Pt} {G L : Lf} {st : Stp} (c : Cons r G) (le : LeF r G L) (g : Good r L st) : LeF r G (struck1 L st) := fun s hs k hk => by
  have hk' := le s hs k hk
  unfold struck1 updL
  split
  · rename_i e
    subst e
    refine List.mem_filter.mpr ⟨hk', decide_eq_true fun e2 => ?_⟩
    obtain ⟨h1, i, h2, h3, h4⟩ := g
    subst e2
    exact h4 ((c _ h1 i _ h2 _ hk).mono (spots_in_room r _ h1).2 le)
  · exact hk'
theorem Rep.keeps {r : List Pt} {G L L' : Lf} {sts : List Stp} (c : Cons r G) (le : LeF r G L) (h : Rep r L sts L') : LeF r G L' := by
  induction h with
  | nil => exact le
  | snoc _ g ih => exact g.keeps c ih
/-- the kinds of one square struck one after another, none of them held by the older rows -/
theorem rep_struck {r : List Pt} {L0 : Lf} {spot : List Pt} {i : Nat} {s : Pt} (hp : spot ∈ spotsL r) (hi : spot[i]? = some s) : ∀ (ks : List Int) (L : Lf), LeF r L L0 → ks.Nodup → (∀ k ∈ ks, k ∈ L s) → (∀ k ∈ ks, ¬ Sup r L0 spot i k) →
    Rep r L (ks.map fun k => (s, k, spot)) (updL L s ((L s).filter fun k => decide (k ∉ ks)))
  | [], L, _, _, _, _ => by
    have e : updL L s ((L s).filter fun k => decide (k ∉ ([] : List Int))) = L := by
      funext x
      unfold updL
      split
      · rename_i e; subst e; simp
      · rfl
    rw [e]
    exact .nil L
  | k :: ks, L, le, nd, hm, hn => by
    have hin := (spots_in_room r _ hp).2
    have g : Good r L (s, k, spot) := ⟨hp, i, hi, hm k List.mem_cons_self, fun q => hn k List.mem_cons_self (q.mono hin le)⟩
    have nd' := List.nodup_cons.mp nd
    have h1 : Rep r L [(s, k, spot)] (struck1 L (s, k, spot)) := .snoc (.nil L) g
    have h2 := rep_struck hp hi ks (struck1 L (s, k, spot)) (struck1_le.trans le) nd'.2 (fun x hx => by
      have hne : x ≠ k := fun e => nd'.1 (e ▸ hx)
      simp only [struck1, updL, if_true]
      exact List.mem_filter.mpr ⟨hm x (List.mem_cons_of_mem _ hx), decide_eq_true hne⟩) fun x hx => hn x (List.mem_cons_of_mem _ hx)
    have h3 := h1.app h2
    have e : updL (struck1 L (s, k, spot)) s ((struck1 L (s, k, spot) s).filter fun x => decide (x ∉ ks)) = updL L s ((L s).filter fun x => decide (x ∉ k :: ks)) := by
      funext x
      unfold updL
      by_cases ex : x = s
      · rw [if_pos ex, if_pos ex]
        simp only [struck1, updL, if_true, List.filter_filter]
        refine List.filter_congr fun y _ => ?_
        by_cases q1 : y = k
        · subst q1; simp
        · by_cases q2 : y ∈ ks <;> simp [q1, q2]
      · rw [if_neg ex, if_neg ex]
        simp only [struck1, updL, if_neg ex]
    rw [e] at h3
    exact h3
/-- nothing else changes for a spot without the square -/
theorem RowIn.congr {r : List Pt} {L L' : Lf} {spot : List Pt} {row : List Int} (h : ∀ s ∈ spot, L s = L' s) : RowIn r L spot row ↔ RowIn r L' spot row := by
  constructor
  · rintro ⟨h1, h2, h3⟩
    exact ⟨h1, fun i s hs => by rw [← h s (List.mem_of_getElem? hs)]; exact h2 i s hs, h3⟩
  · rintro ⟨h1, h2, h3⟩
    exact ⟨h1, fun i s hs => by rw [h s (List.mem_of_getElem? hs)]; exact h2 i s hs, h3⟩
/-- the spot holds together by itself -/
def Stab (r : List Pt) (L : Lf) (spot : List Pt) : Prop := ∀ (i : Nat) (s : Pt), spot[i]? = some s → ∀ k ∈ L s, Sup r L spot i k
theorem Stab.congr {r : List Pt} {L L' : Lf} {spot : List Pt} (h : ∀ s ∈ spot, L s = L' s) (q : Stab r L spot) : Stab r L' spot := fun i s hs k hk => by
  obtain ⟨row, h1, h2⟩ := q i s hs k (by rw [h s (List.mem_of_getElem? hs)]; exact hk)
  exact ⟨row, (RowIn.congr h).mp h1, h2⟩
end DL

set_option maxHeartbeats 4000000
/-! the rounds, as states. -/
namespace DL
open PySem PySem.Spec PyProof.Rows L2 Evl

/-- near: the spots that hold a square -/
def nlF (l : List (List Pt)) (s : Pt) : List (List Pt) := l.flatMap fun spot => (spot.filter fun x => decide (x = s)).map fun _ => spot
theorem mem_nlF {l : List (List Pt)} {s : Pt} {q : List Pt} : q ∈ nlF l s ↔ q ∈ l ∧ s ∈ q := by
  unfold nlF
  simp only [List.mem_flatMap, List.mem_map, List.mem_filter, decide_eq_true_eq]
  constructor
  · rintro ⟨p, hp, x, ⟨hx, rfl⟩, rfl⟩
    exact ⟨hp, hx⟩
  · rintro ⟨h1, h2⟩
    exact ⟨q, h1, s, ⟨h2, rfl⟩, rfl⟩
structure Out (r : List Pt) (Lsp : List (List Pt)) (L0 : Lf) (kw : List (NK × D)) (row : List (List Pt)) (fd : List Stp) (L : Lf) (W : List Pt → Bool) : Prop where
  rep : Rep r L0 fd L
  nd : ∀ s ∈ r, (L s).Nodup ∧ (L s).length ≤ 5
  rin : ∀ q ∈ row, q ∈ Lsp
  wt : ∀ q ∈ Lsp, kw.lookup (spk q) = some (.bl (W q))
  wl : kw.length ≤ 64
  wr : ∀ q ∈ Lsp, W q = true → q ∈ row
  ws : ∀ q ∈ Lsp, W q = false → Stab r L q
  len : row.length ≤ 64 * (fd.length + 1)
structure Mid (r : List Pt) (Lsp : List (List Pt)) (L0 Ls : Lf) (sp : List Pt) (n0 i : Nat) (kw : List (NK × D)) (row : List (List Pt)) (fd : List Stp) (L : Lf) (W : List Pt → Bool) : Prop where
  rep : Rep r L0 fd L
  nd : ∀ s ∈ r, (L s).Nodup ∧ (L s).length ≤ 5
  rin : ∀ q ∈ row, q ∈ Lsp
  wt : ∀ q ∈ Lsp, kw.lookup (spk q) = some (.bl (W q))
  wl : kw.length ≤ 64
  wr : ∀ q ∈ Lsp, W q = true → q ∈ row
  ws : ∀ q ∈ Lsp, q ≠ sp → W q = false → Stab r L q
  wsp : W sp = false → ∀ s ∈ r, L s = Ls s
  le : LeF r L Ls
  same : ∀ s ∈ r, s ∉ sp.take i → L s = Ls s
  kept : ∀ j s, j < i → sp[j]? = some s → ∀ k ∈ L s, Sup r Ls sp j k
  me : cntL r L * 65 + row.length ≤ cntL r Ls * 65 + n0
  len : row.length ≤ 64 * (fd.length + 1)
theorem putN_old {kvs : List (NK × D)} {k : NK} {d : D} (h : (kvs.lookup k).isSome = true) : (putN kvs k d).length = kvs.length := by
  unfold putN
  rw [if_pos h, List.length_map]
theorem putsN_old : ∀ {ps kvs : List (NK × D)}, (∀ p ∈ ps, (kvs.lookup p.1).isSome = true) → (putsN kvs ps).length = kvs.length
  | [], _, _ => rfl
  | p :: ps, kvs, h => by
    have h1 : putsN kvs (p :: ps) = putsN (putN kvs p.1 p.2) ps := rfl
    rw [h1, putsN_old fun q hq => ?_, putN_old (h p List.mem_cons_self)]
    rw [lookup_putN]
    split
    · rfl
    · exact h q (List.mem_cons_of_mem _ hq)
theorem Out.pop {r : List Pt} {Lsp : List (List Pt)} {L0 : Lf} {kw : List (NK × D)} {row : List (List Pt)} {fd : List Stp} {L : Lf} {W : List Pt → Bool} {sp : List Pt} (o : Out r Lsp L0 kw (row ++ [sp]) fd L W) :
    sp ∈ Lsp ∧ Mid r Lsp L0 L sp row.length 0 (putN kw (spk sp) (.bl false)) row fd L (fun q => if q = sp then false else W q) := by
  have hsp := o.rin sp (by simp)
  refine ⟨hsp, o.rep, o.nd, fun q hq => o.rin q (List.mem_append_left _ hq), fun q hq => ?_, ?_, fun q hq hw => ?_, fun q hq hne hw => ?_, fun _ _ _ => rfl, LeF.refl, fun _ _ _ => rfl, fun j s hj => absurd hj (Nat.not_lt_zero j), Nat.le_refl _, ?_⟩
  · rw [lookup_putN]
    by_cases e : q = sp
    · subst e; simp
    · have : ¬ spk q = spk sp := fun z => e (spk_inj z)
      rw [if_neg this, o.wt q hq, if_neg e]
  · rw [putN_old (by rw [o.wt sp hsp]; rfl)]
    exact o.wl
  · by_cases e : q = sp
    · rw [if_pos e] at hw; cases hw
    · rw [if_neg e] at hw
      rcases List.mem_append.mp (o.wr q hq hw) with h | h
      · exact h
      · exact absurd (List.mem_singleton.mp h) e
  · rw [if_neg hne] at hw
    exact o.ws q hq hw
  · have := o.len
    rw [List.length_append] at this
    omega
section
variable {r : List Pt} {Lsp : List (List Pt)} {L0 Ls : Lf} {sp : List Pt} {n0 i : Nat} {kw : List (NK × D)} {row : List (List Pt)} {fd : List Stp} {L : Lf} {W : List Pt → Bool} {s : Pt}
/-- the kinds of the square that no row holds -/
def struckL (r : List Pt) (Ls : Lf) (sp : List Pt) (i : Nat) (ks : List Int) : List Int := ks.filter fun k => !atRows (fitL r sp (sp.map Ls)) i k
def keptL (r : List Pt) (Ls : Lf) (sp : List Pt) (i : Nat) (ks : List Int) : List Int := ks.filter fun k => atRows (fitL r sp (sp.map Ls)) i k
theorem Mid.skip (m : Mid r Lsp L0 Ls sp n0 i kw row fd L W) (hl : SpotLen sp) (hi : sp[i]? = some s) (e : struckL r Ls sp i (L s) = []) : Mid r Lsp L0 Ls sp n0 (i + 1) kw row fd L W := by
  refine { m with same := fun x hx hn => m.same x hx fun q => hn ?_, kept := fun j x hj hx k hk => ?_ }
  · rw [List.take_succ]; exact List.mem_append_left _ q
  · rcases Nat.lt_succ_iff_lt_or_eq.mp hj with h | h
    · exact m.kept j x h hx k hk
    · subst h
      rw [hi] at hx
      cases hx
      rw [← sup_iff r Ls sp hl]
      unfold struckL at e
      have := List.filter_eq_nil_iff.mp e k hk
      simpa using this
theorem keptL_len (h : struckL r Ls sp i (L s) ≠ []) : (keptL r Ls sp i (L s)).length < (L s).length := by
  obtain ⟨k, hk⟩ := List.exists_mem_of_ne_nil _ h
  obtain ⟨h1, h2⟩ := List.mem_filter.mp hk
  exact filter_lt h1 (by simpa using h2)
def laterL (Lsp : List (List Pt)) (W : List Pt → Bool) (s : Pt) : List (List Pt) := (nlF Lsp s).filter fun q => !W q
theorem Mid.strike (m : Mid r Lsp L0 Ls sp n0 i kw row fd L W) (hLs : ∀ q ∈ Lsp, q ∈ spotsL r) (hsp : sp ∈ Lsp) (hi : sp[i]? = some s) (hst : struckL r Ls sp i (L s) ≠ []) (hlen : (laterL Lsp W s).length ≤ 64) :
    Mid r Lsp L0 Ls sp n0 (i + 1) (putsN kw (tabN spk (fun _ => .bl true) (laterL Lsp W s))) (row ++ laterL Lsp W s) (fd ++ (struckL r Ls sp i (L s)).map fun k => (s, k, sp)) (updL L s (keptL r Ls sp i (L s))) (fun q => W q || decide (q ∈ laterL Lsp W s)) := by
  have hspr := hLs sp hsp
  obtain ⟨hl, hin⟩ := spots_in_room r sp hspr
  have hs : s ∈ r := hin s (List.mem_of_getElem? hi)
  have hlat : ∀ q ∈ laterL Lsp W s, q ∈ Lsp ∧ s ∈ q ∧ W q = false := fun q hq => by
    obtain ⟨h1, h2⟩ := List.mem_filter.mp hq
    obtain ⟨h3, h4⟩ := mem_nlF.mp h1
    exact ⟨h3, h4, by simpa using h2⟩
  have hrep : Rep r L ((struckL r Ls sp i (L s)).map fun k => (s, k, sp)) (updL L s (keptL r Ls sp i (L s))) := by
    have h1 := rep_struck (L0 := Ls) hspr hi (struckL r Ls sp i (L s)) L m.le ((m.nd s hs).1.filter _) (fun k hk => (List.mem_filter.mp hk).1) fun k hk q => by
      have h2 := (List.mem_filter.mp hk).2
      rw [(sup_iff r Ls sp hl i k).mpr q] at h2
      cases h2
    have e : (L s).filter (fun k => decide (k ∉ struckL r Ls sp i (L s))) = keptL r Ls sp i (L s) := by
      unfold keptL struckL
      refine List.filter_congr fun k hk => ?_
      by_cases c : atRows (fitL r sp (sp.map Ls)) i k = true
      · rw [c]; refine decide_eq_true fun q => ?_
        have := (List.mem_filter.mp q).2
        rw [c] at this; cases this
      · have c' : atRows (fitL r sp (sp.map Ls)) i k = false := by simpa using c
        rw [c']
        exact decide_eq_false fun q => q (List.mem_filter.mpr ⟨hk, by rw [c']; rfl⟩)
    rw [e] at h1
    exact h1
  have hcnt : cntL r (updL L s (keptL r Ls sp i (L s))) < cntL r L := cnt_upd hs (keptL_len hst)
  have hfd : 1 ≤ (struckL r Ls sp i (L s)).length := List.length_pos_iff.mpr hst
  have hW : ∀ q ∈ Lsp, s ∈ q → (W q || decide (q ∈ laterL Lsp W s)) = true := fun q hq hsq => by
    cases c : W q with
    | true => rfl
    | false =>
      have : q ∈ laterL Lsp W s := List.mem_filter.mpr ⟨mem_nlF.mpr ⟨hq, hsq⟩, by rw [c]; rfl⟩
      simp [this]
  refine ⟨m.rep.app hrep, fun x hx => ?_, fun q hq => ?_, fun q hq => ?_, ?_, fun q hq hw => ?_, fun q hq hne hw => ?_, fun hw => ?_, fun x hx k hk => ?_, fun x hx hnm => ?_, fun j x hj hx k hk => ?_, ?_, ?_⟩
  · unfold updL
    split
    · exact ⟨(m.nd s hs).1.filter _, filter_len _ _ _ (m.nd s hs).2⟩
    · exact m.nd x hx
  · rcases List.mem_append.mp hq with h | h
    · exact m.rin q h
    · exact (hlat q h).1
  · rw [lookup_putsN]
    have e : (tabN spk (fun _ => D.bl true) (laterL Lsp W s)).reverse.lookup (spk q) = if q ∈ laterL Lsp W s then some (.bl true) else none := by
      have h1 : (tabN spk (fun _ => D.bl true) (laterL Lsp W s)).reverse = tabN spk (fun _ => D.bl true) (laterL Lsp W s).reverse := by unfold tabN; rw [List.map_reverse]
      rw [h1, tabN_at fun a b e => spk_inj e]
      simp
    rw [e, m.wt q hq]
    by_cases c : q ∈ laterL Lsp W s
    · simp [c]
    · simp [c]
  · rw [putsN_old fun p hp => ?_]
    · exact m.wl
    · obtain ⟨q, hq, rfl⟩ := List.mem_map.mp hp
      rw [m.wt q (hlat q hq).1]; rfl
  · rcases Bool.or_eq_true _ _ |>.mp hw with h | h
    · exact List.mem_append_left _ (m.wr q hq h)
    · exact List.mem_append_right _ (of_decide_eq_true h)
  · by_cases hsq : s ∈ q
    · rw [hW q hq hsq] at hw; cases hw
    · have hwq : W q = false := by
        cases c : W q with
        | true => rw [c] at hw; cases hw
        | false => rfl
      refine (m.ws q hq hne hwq).congr fun x hx => ?_
      unfold updL
      rw [if_neg fun e : x = s => hsq (e ▸ hx)]
  · rw [hW sp hsp (List.mem_of_getElem? hi)] at hw; cases hw
  · unfold updL at hk
    split at hk
    · rename_i e; subst e; exact m.le x hx k (List.mem_filter.mp hk).1
    · exact m.le x hx k hk
  · have hne : x ≠ s := fun e => hnm (by rw [List.take_succ, hi]; subst e; simp)
    unfold updL
    rw [if_neg hne]
    exact m.same x hx fun q => hnm (by rw [List.take_succ]; exact List.mem_append_left _ q)
  · rcases Nat.lt_succ_iff_lt_or_eq.mp hj with h | h
    · have hne : x ≠ s := fun e => by
        subst e
        have h1 := (List.getElem?_eq_some_iff.mp hx)
        have h2 := (List.getElem?_eq_some_iff.mp hi)
        have := (List.getElem_inj (spots_nodup r sp hspr)).mp (h1.2.trans h2.2.symm)
        omega
      unfold updL at hk
      rw [if_neg hne] at hk
      exact m.kept j x h hx k hk
    · subst h
      rw [hi] at hx
      cases hx
      unfold updL at hk
      rw [if_pos rfl] at hk
      exact (sup_iff r Ls sp hl j k).mp (List.mem_filter.mp hk).2
  · have := m.me
    rw [List.length_append]
    omega
  · have := m.len
    rw [List.length_append, List.length_append, List.length_map]
    omega
theorem Mid.done (m : Mid r Lsp L0 Ls sp n0 sp.length kw row fd L W) (hin : ∀ s ∈ sp, s ∈ r) : Out r Lsp L0 kw row fd L W := by
  refine ⟨m.rep, m.nd, m.rin, m.wt, m.wl, m.wr, fun q hq hw => ?_, m.len⟩
  by_cases e : q = sp
  · subst e
    intro i s hs k hk
    have hi : i < q.length := (List.getElem?_eq_some_iff.mp hs).1
    obtain ⟨row', h1, h2⟩ := m.kept i s hi hs k hk
    exact ⟨row', (RowIn.congr fun x hx => (m.wsp hw x (hin x hx)).symm).mp h1, h2⟩
  · exact m.ws q hq e hw
end
end DL

set_option maxHeartbeats 4000000
/-! the memory of the rounds. -/
namespace DL
open PySem PySem.Spec PyProof.Rows L2 Evl

abbrev nearB (r : List Pt) (ad : Pt → Addr) (nl : Pt → List (List Pt)) : MS := r.map fun s => (ad s, .lst ((nl s).map spotD))
theorem zip_fun : ∀ {r : List Pt} {ads : List Addr}, r.Nodup → ads.length = r.length → ∃ ad : Pt → Addr, ads = r.map ad
  | [], ads, _, h => ⟨fun _ => 0, by simpa using h⟩
  | s :: r, [], _, h => by simp at h
  | s :: r, a :: ads, nd, h => by
    obtain ⟨ad, e⟩ := zip_fun (r := r) (ads := ads) (List.nodup_cons.mp nd).2 (by simpa using h)
    refine ⟨fun x => if x = s then a else ad x, ?_⟩
    rw [List.map_cons, if_pos rfl, e]
    congr 1
    refine List.map_congr_left fun x hx => ?_
    rw [if_neg fun q : x = s => (List.nodup_cons.mp nd).1 (q ▸ hx)]
theorem zip_map_self {α β : Type} (f : α → β) : ∀ l : List α, l.zip (l.map f) = l.map fun x => (x, f x)
  | [] => rfl
  | x :: l => by rw [List.map_cons, List.zip_cons_cons, zip_map_self f l, List.map_cons]
theorem nearB_get {r : List Pt} {ad : Pt → Addr} {nl : Pt → List (List Pt)} {i : Nat} {s : Pt} (h : r[i]? = some s) (pre M0 : MS) : (pre ++ (nearB r ad nl ++ M0))[pre.length + i]? = some (ad s, .lst ((nl s).map spotD)) := by
  rw [List.getElem?_append_right (by omega), Nat.add_sub_cancel_left, List.getElem?_append_left, List.getElem?_map, h]
  · rfl
  · have := (List.getElem?_eq_some_iff.mp h).1
    simpa using this
theorem nearB_set {r : List Pt} (nd : r.Nodup) {ad : Pt → Addr} {nl : Pt → List (List Pt)} {i : Nat} {s : Pt} (h : r[i]? = some s) (x : List (List Pt)) (pre M0 : MS) :
    (pre ++ (nearB r ad nl ++ M0)).set (pre.length + i) (ad s, .lst (x.map spotD)) = pre ++ (nearB r ad (fun y => if y = s then x else nl y) ++ M0) := by
  have hi : i < r.length := (List.getElem?_eq_some_iff.mp h).1
  rw [List.set_append_right _ _ (by omega), Nat.add_sub_cancel_left, List.set_append_left _ _ (by simpa using hi)]
  congr 2
  unfold nearB
  apply List.ext_getElem?
  intro j
  by_cases e : i = j
  · subst e
    rw [List.getElem?_set_self (by simpa using hi), List.getElem?_map, h]
    simp
  · rw [List.getElem?_set_ne e, List.getElem?_map, List.getElem?_map]
    cases q : r[j]? with
    | none => rfl
    | some y =>
      have hne : y ≠ s := fun z => by
        subst z
        have h1 := List.getElem?_eq_some_iff.mp h
        have h2 := List.getElem?_eq_some_iff.mp q
        exact e ((List.getElem_inj nd).mp (h1.2.trans h2.2.symm))
      simp [hne]
theorem eqD_nil (l : List D) : eqD (.lst l) (.lst []) = l.isEmpty := by
  unfold eqD
  simp only [toPy, toPys]
  cases l with
  | nil => simp [toPys, PyData.eqv, PyData.eqvAll]
  | cons d l => simp [toPys, PyData.eqv, PyData.eqvAll]
theorem datB_ints (n : Nat) (l : List Int) : datB (n + 1) (.lst (l.map .int)) = true := by
  simp only [datB, List.all_eq_true, List.mem_map]
  rintro d ⟨x, _, rfl⟩
  cases n <;> simp [datB]
theorem datB_spots (n : Nat) (l : List (List Pt)) : datB (n + 3) (.lst (l.map spotD)) = true := by
  show (l.map spotD).all (datB (n + 2)) = true
  rw [List.all_eq_true]
  intro d hd
  obtain ⟨x, _, rfl⟩ := List.mem_map.mp hd
  exact datB_spot n x
abbrev stepD (st : Stp) : D := .tup [sqD st.1, .int st.2.1, spotD st.2.2]
theorem left_put {r : List Pt} {L : Lf} {s : Pt} {ks : List Int} (hs : s ∈ r) : putN (leftK r L) (sk s) (intsD ks) = leftK r (updL L s ks) := by
  unfold leftK
  rw [tabN_put (fun a b e => sk_inj e) hs]
  unfold tabN
  refine List.map_congr_left fun x _ => ?_
  unfold updL
  by_cases e : x = s <;> simp [e]
theorem nlF_len (l : List (List Pt)) (s : Pt) (h : ∀ q ∈ l, q.length ≤ 4) : (nlF l s).length ≤ 4 * l.length := by
  unfold nlF
  refine flat_len _ 4 l fun q hq => ?_
  rw [List.length_map]
  exact filter_len _ _ _ (h q hq)
theorem nlF_nodup (r : List Pt) (l : List (List Pt)) (s : Pt) (h : ∀ q ∈ l, q ∈ spotsL r) : (nlF l s).length ≤ l.length := by
  unfold nlF
  have : 1 * l.length = l.length := Nat.one_mul _
  rw [← this]
  refine flat_len _ 1 l fun q hq => ?_
  rw [List.length_map]
  have nd := spots_nodup r q (h q hq)
  have h1 := List.nodup_iff_count.mp nd s
  rw [List.count, List.countP_eq_length_filter] at h1
  have e : q.filter (fun x => decide (x = s)) = q.filter fun x => x == s := List.filter_congr fun x _ => by
    by_cases c : x = s
    · subst c; simp
    · simp [c]
  rw [e]
  exact h1
end DL

set_option maxHeartbeats 8000000
/-! walks: the rounds. -/
namespace DL
open PySem PySem.Spec PyProof.Rows L2 Evl

local macro_rules
  | `(tactic| walk_at "op") => `(tactic| first
    | exact wo_add ⟨rfl, rfl⟩ | exact wo_sub ⟨rfl, rfl⟩ | exact wo_lt ⟨rfl, rfl⟩ | exact wo_le ⟨rfl, rfl⟩ | exact wo_gt ⟨rfl, rfl⟩ | exact wo_ge ⟨rfl, rfl⟩
    | exact wo_eqi ⟨rfl, rfl⟩ | exact wo_nei ⟨rfl, rfl⟩ | exact wo_eqb ⟨rfl, rfl⟩ | exact wo_neb ⟨rfl, rfl⟩ | exact wo_isN ⟨rfl, rfl⟩ | exact wo_notN ⟨rfl, rfl⟩)
  | `(tactic| walk_at "sq") => `(tactic| first | exact Sq.tup | exact Sq.lst | exact Sq.tupN | exact Sq.ref _ rfl)
  | `(tactic| walk_at "at") => `(tactic| first | rfl | assumption)
  | `(tactic| walk_at "isi") => `(tactic| first | exact wc_isI (by assumption) ⟨rfl, rfl⟩ | exact wc_isB (by assumption) ⟨rfl, rfl⟩ | exact wc_isT (by assumption) ⟨rfl, rfl⟩ | exact wc_isL (by assumption) ⟨rfl, rfl⟩ | exact wc_isLT (by assumption) ⟨rfl, rfl⟩ | exact wc_isBS (by assumption) ⟨rfl, rfl⟩)
  | `(tactic| walk_at "len") => `(tactic| exact wc_len (by first | exact Sq.tup | exact Sq.lst | exact Sq.tupN | exact Sq.ref _ rfl) ⟨rfl, rfl⟩)
  | `(tactic| walk_at "tuple") => `(tactic| exact wc_tuple (by first | exact Sq.lst | exact Sq.tup | exact Sq.tupN | exact Sq.ref _ rfl) ⟨rfl, rfl⟩)
  | `(tactic| walk_at "all") => `(tactic| exact wc_all (by assumption) (by first | exact SqO.lst | exact SqO.ref _ rfl) ⟨rfl, rfl⟩)

local macro_rules
  | `(tactic| walk_at "is_number") => `(tactic| exact ⟨_, rfl, by assumption, rfl, rfl⟩)
  | `(tactic| walk_at "tupled") => `(tactic| exact ⟨_, rfl, by assumption, rfl, rfl⟩)

theorem sum_const {α : Type} (n : Nat) : ∀ l : List α, (l.map fun _ => n).sum = n * l.length
  | [] => by simp
  | x :: l => by rw [List.map_cons, List.sum_cons, sum_const n l, List.length_cons, Nat.mul_succ, Nat.add_comm]
def LetOk (l : Lets) : Prop := ∀ x ∈ l, x.2.Nodup ∧ x.2.length ≤ 5
theorem lookup_mem {s : Pt} {ks : List Int} : ∀ {l : Lets}, l.lookup s = some ks → (s, ks) ∈ l
  | [], h => by simp at h
  | (p, k) :: l, h => by
    by_cases e : s = p
    · subst e
      simp [List.lookup] at h
      subst h
      simp
    · have n2 : (s == p) = false := by simpa using e
      simp only [List.lookup, n2] at h
      exact List.mem_cons_of_mem _ (lookup_mem h)
theorem letF_ok {l : Lets} (h : LetOk l) (s : Pt) : (letF l s).Nodup ∧ (letF l s).length ≤ 5 := by
  unfold letF toldF
  cases e : l.reverse.lookup s with
  | none => exact ⟨by decide, by decide⟩
  | some ks => exact h _ (List.mem_reverse.mp (lookup_mem e))
abbrev roundEnv (r : List Pt) (l : Lets) (kk : List (NK × D)) (pl pf : Addr) (Lsp : List (List Pt)) (nk : List (NK × D)) (o7 o8 o9 o10 o11 o12 o14 : Option D) : EnvD :=
  [some (roomD r), some (letsD l), some (.dic kk), some (.ref pl), some (.ref pf), some (.lst (Lsp.map spotD)), some (.dic nk), o7, o8, o9, o10, o11, o12, none, o14, none]
abbrev roundMem (r : List Pt) (ad : Pt → Addr) (nl : Pt → List (List Pt)) (pw : Addr) (kw : List (NK × D)) (prow : Addr) (row : List (List Pt)) (pf : Addr) (fd : List Stp) (pl : Addr) (L : Lf) (M0 : MS) : MS :=
  [(pw, .dic kw), (prow, .lst (row.map spotD)), (pf, .lst (fd.map stepD)), (pl, .dic (leftK r L))] ++ (nearB r ad nl ++ M0)
def s_rounds_in : SpD := fun ds M Q => ∃ (r : List Pt) (l : Lets), ds = [roomD r, letsD l] ∧ r.Nodup ∧ r.length ≤ 16 ∧ LetOk l ∧ l.length ≤ 1000 ∧
  ∀ (L : Lf) (fd : List Stp), Rep r (letF l) fd L → (∀ s ∈ r, (L s).Nodup ∧ (L s).length ≤ 5) → (∀ spot ∈ spotsL r, Stab r L spot) → Q (.tup [.dic (leftK r L), .lst (fd.map stepD)]) M
theorem ok_rounds_in {X : Cx} (B : Bs X) : Dn X "rounds_in" 6 ["room", "lets"] s_rounds_in := by
  refine def_by B 43 30 30 (k := 5) (N := ["room", "lets", "known", "left", "found", "spots", "near", "square", "spot", "row", "waits", "kept", "struck", "kind", "later", "own"]) rfl rfl ⟨rfl, rfl, rfl, by decide +kernel, rfl, by decide +kernel, by decide +kernel⟩ (fun _ _ _ _ _ _ us hl => match us, hl with | [_, _], _ => rfl) ?len ?body
  case len => rintro _ _ _ ⟨_, _, rfl, _⟩; rfl
  case body =>
    rintro X' h B _ M QD ⟨r, l, rfl, nd, hr, lo, hll, q⟩
    refine wss_cons (ws_par3 h 2 3 4 rfl rfl rfl (by decide) (by decide) (by decide) rfl rfl rfl (h.sw0 fun E e => by cases E; cases e; rfl) (we_call h (ok_known_of B) rfl (DA.to (da_cons (de_var h 0 rfl rfl rfl) da_nil) ⟨r, rfl, by omega, fun kk hk => ?_⟩)))
    refine we_call h (ok_left_at_first B) rfl (DA.to (da_cons (de_var h 0 rfl rfl rfl) (da_cons (de_var h 1 rfl rfl rfl) da_nil)) ⟨r, l, rfl, nd, by omega, hll, fun pl => ?_⟩)
    refine DO.to (do_lst da_nil) fun pf => ?_
    refine wss_cons (ws_set h 5 rfl rfl (we_call h (ok_spots_in B) rfl (DA.to (da_cons (de_var h 0 rfl rfl rfl) da_nil) ⟨r, rfl, by omega, fun Lsp hp => ?_⟩)))
    have hLs : ∀ q ∈ Lsp, q ∈ spotsL r := fun q hq => hp.mem_iff.mp hq
    have hLn : Lsp.length ≤ 64 := by have := spotsL_len r; rw [hp.length_eq]; omega
    refine wss_cons (ws_set h 6 rfl rfl (we_callTy h rfl B.f_dict boot_dict (wa_cons (wo_lcG h (own := [("square", 7)]) (tg_name h 7 rfl rfl (by simp)) rfl B.toT (fun i gs acc => ∃ ads : List Addr, ads.length = i ∧ gs = (ads.map fun a => ((a, MO.lst []) : Addr × MO)).reverse ∧ acc = ((r.take i).zip ads).map fun x => D.tup [sqD x.1, .ref x.2])
      (wi_tup (DE.to (de_var h 0 rfl rfl rfl) ⟨r.map sqD, rfl, fun _ _ => trivial, by simp; omega, ⟨[], rfl, rfl, by simp⟩, ?_, ?_⟩))))))
    · rintro i d gs acc e ⟨ads, hl, rfl, rfl⟩
      rw [List.getElem?_map] at e
      cases hs : r[i]? with
      | none => rw [hs] at e; cases e
      | some s =>
        rw [hs] at e
        cases e
        refine ⟨_, rfl, fun X' ⟨h, B, _⟩ p => we_tup (wa_cons (DE.to (de_var h 7 rfl rfl rfl) (wa_cons (DO.to (do_lst da_nil) fun pn => wa_nil ⟨by simp, (pn, .lst []) :: (ads.map fun a => ((a, MO.lst []) : Addr × MO)).reverse, rfl, ads ++ [pn], by simp [hl], by simp, ?_⟩))))⟩
        have hi : i < r.length := (List.getElem?_eq_some_iff.mp hs).1
        rw [List.take_succ, hs, List.zip_append (by rw [List.length_take, hl]; omega)]
        simp
    · rintro p gs acc ⟨ads, hl, rfl, rfl⟩
      obtain ⟨ad, rfl⟩ := zip_fun nd (by simpa using hl)
      have e1 : ((r.take (r.map sqD).length).zip (r.map ad)).map (fun x => D.tup [sqD x.1, .ref x.2]) = prD (tabN sk (fun s => .ref (ad s)) r) := by
        rw [List.length_map, List.take_length, zip_map_self, tab_prD, List.map_map]
        exact List.map_congr_left fun s _ => by simp [Function.comp, keyD, keyDs]
      rw [e1]
      refine wa_nil (wc_dict h (.l (.ref _ (get_mid _ _ _))) (tab_ok sk_ok) (by simp [tabN]; omega) fun pd => ?_)
      rw [tabN_puts (fun a b e => sk_inj e) nd]
      refine wss_fz 6 rfl ?_
      have hperm : (((r.map ad).map fun a => ((a, MO.lst []) : Addr × MO)).reverse ++ (p, .lst (prD (tabN sk (fun s => .ref (ad s)) r))) :: (pf, .lst []) :: (pl, .dic (leftK r (letF l))) :: M).Perm ((p, .lst (prD (tabN sk (fun s => .ref (ad s)) r))) :: ([(pf, .lst []), (pl, .dic (leftK r (letF l)))] ++ (nearB r ad (fun _ => []) ++ M))) := by
        refine (List.perm_append_comm_assoc _ [_, _, _] M).trans ?_
        refine List.Perm.append_left [_, _, _] (List.Perm.append_right M ?_)
        refine (List.reverse_perm _).trans ?_
        rw [List.map_map]
        exact List.Perm.refl _
      refine wss_perm hperm (wss_drop ?_)
      generalize hnk : tabN sk (fun s => D.ref (ad s)) r = nk
      have nk_at : ∀ s ∈ r, nk.lookup (sk s) = some (.ref (ad s)) := fun s hs => by
        subst hnk
        rw [tabN_at fun a b e => sk_inj e, if_pos hs]
      -- near is filled
      refine wss_cons (ws_forT h Lsp spotD (fun i ρ' M' => ∃ o7 o8, ρ' = roundEnv r l kk pl pf Lsp nk o7 o8 none none none none none ∧ M' = [(pf, .lst []), (pl, .dic (leftK r (letF l)))] ++ (nearB r ad (nlF (Lsp.take i)) ++ M)) (fi_lst (de_var h 5 rfl rfl rfl) rfl) ⟨none, none, rfl, rfl⟩ ?_ ?_)
      · rintro i sp ρ' M' hx ⟨o7, o8, rfl, rfl⟩
        have hsp := hLs sp (List.mem_of_getElem? hx)
        obtain ⟨hsl, hin⟩ := spots_in_room r sp hsp
        have hs4 : sp.length ≤ 4 := by rcases hsl with e | e | e <;> omega
        refine wg_name h 8 rfl rfl ?_
        refine wss_one (ws_forT h sp sqD (fun j ρ' M' => ∃ o7, ρ' = roundEnv r l kk pl pf Lsp nk o7 (some (spotD sp)) none none none none none ∧ M' = [(pf, .lst []), (pl, .dic (leftK r (letF l)))] ++ (nearB r ad (fun s => nlF (Lsp.take i) s ++ ((sp.take j).filter fun x => decide (x = s)).map fun _ => sp) ++ M)) (fi_tup (de_var h 8 rfl rfl rfl) rfl) ⟨o7, rfl, by simp⟩ ?_ ?_)
        · rintro j s ρ' M' hj ⟨o7, rfl, rfl⟩
          have hs : s ∈ r := hin s (List.mem_of_getElem? hj)
          obtain ⟨ix, hix⟩ := List.mem_iff_getElem?.mp hs
          have hlen : (nlF (Lsp.take i) s).length ≤ 64 := Nat.le_trans (nlF_nodup r _ s fun q hq => hLs q (List.mem_of_mem_take hq)) (take_len _ _ _ hLn)
          refine wg_name h 7 rfl rfl ?_
          refine wss_one (ws_append _ (de_at h .dic (de_var h 6 rfl rfl rfl) (de_var h 7 rfl rfl rfl) (sk_ok s) (sk_D s).symm (nk_at s hs)) (de_var h 8 rfl rfl rfl) (nearB_get hix _ M) (by
            have := filter_len (fun x => decide (x = s)) (sp.take j) 4 (take_len _ _ _ hs4)
            simp only [List.length_map, List.length_append]; omega) ⟨_, rfl, ?_⟩)
          have e2 : ((nlF (Lsp.take i) s ++ ((sp.take j).filter fun x => decide (x = s)).map fun _ => sp).map spotD) ++ [spotD sp] = ((nlF (Lsp.take i) s ++ ((sp.take j).filter fun x => decide (x = s)).map fun _ => sp) ++ [sp]).map spotD := by simp
          rw [e2, nearB_set nd hix]
          refine congrArg (fun f => [(pf, MO.lst []), (pl, MO.dic (leftK r (letF l)))] ++ (nearB r ad f ++ M)) (funext fun y => ?_)
          rw [List.take_succ, hj, List.filter_append, List.map_append]
          by_cases ey : y = s
          · subst ey; simp
          · have ey' : ¬ s = y := fun q => ey q.symm
            simp [ey, ey']
        · rintro ρ' M' ⟨o7, rfl, rfl⟩
          refine ⟨_, _, rfl, ?_⟩
          refine congrArg (fun f => [(pf, MO.lst []), (pl, MO.dic (leftK r (letF l)))] ++ (nearB r ad f ++ M)) (funext fun y => ?_)
          unfold nlF
          rw [take_flat _ hx, List.take_length]
      · rintro ρ' M' ⟨o7, o8, rfl, rfl⟩
        rw [List.take_length]
        refine wss_cons (ws_asg (we_tup (wa_cons (wo_rev (DE.to (de_var h 5 rfl rfl rfl) ⟨_, .lst, fun prow => wa_cons (DO.to (mo := .dic (putsN [] (tabN spk (fun _ => .bl true) Lsp))) (do_callTy h rfl B.f_dict boot_dict (da_cons (DO.frz (do_lcM h B Lsp spotD (fun q => .tup [keyD (spk q), .bl true]) [("spot", 8)] (tg_name h 8 rfl rfl (by simp)) rfl ⟨wi_lstE (de_var h 5 rfl rfl rfl) rfl, by omega, fun q _ => ⟨_, rfl, fun X' ⟨h, B, _⟩ m => de_tup (da_cons (DE.as (de_var h 8 rfl rfl rfl) (spk_D q).symm) (da_cons de_bl da_nil))⟩⟩)) da_nil)
          (wc_dict h (.l (by rw [MO.frz, ← tab_prD (key := spk) (val := fun _ => .bl true) (l := Lsp)]; exact .lst)) (tab_ok spk_ok) (by simp [tabN]; omega) fun p => ⟨p, rfl, rfl⟩)) fun pw => wa_nil ⟨by simp, wg_tup h (wgs_cons h 9 rfl rfl (wgs_cons h 10 rfl rfl (wgs_nil ?_))) rfl⟩)⟩)))) (hw := h.sw0 fun E e => by cases E; cases e; rfl))
        rw [← List.map_reverse]
        have out0 : Out r Lsp (letF l) (putsN [] (tabN spk (fun _ => .bl true) Lsp)) Lsp.reverse [] (letF l) (fun _ => true) := by
          refine ⟨.nil _, fun s _ => letF_ok lo s, fun q hq => List.mem_reverse.mp hq, fun q hq => ?_, ?_, fun q hq _ => List.mem_reverse.mpr hq, fun q _ hw => (nomatch hw), by rw [List.length_reverse]; simp; omega⟩
          · rw [lookup_putsN]
            have e : (tabN spk (fun _ => D.bl true) Lsp).reverse = tabN spk (fun _ => D.bl true) Lsp.reverse := by unfold tabN; rw [List.map_reverse]
            rw [e, tabN_at fun a b e => spk_inj e]
            simp [hq]
          · have := putsN_len (ps := tabN spk (fun _ => D.bl true) Lsp) (kvs := [])
            simp [tabN] at this ⊢
            omega
        have c0 : cntL r (letF l) ≤ 80 := by
          have h1 : cntL r (letF l) ≤ (r.map fun _ => 5).sum := sum_le fun s _ => (letF_ok lo s).2
          rw [sum_const] at h1
          omega
        refine wss_cons (ws_while h (fun m ρ' M' => ∃ o7 o8 o11 o12 o14 kw row fd L W, ρ' = roundEnv r l kk pl pf Lsp nk o7 o8 (some (.ref prow)) (some (.ref pw)) o11 o12 o14 ∧ M' = roundMem r ad (nlF Lsp) pw kw prow row pf fd pl L M ∧ Out r Lsp (letF l) kw row fd L W ∧ m = cntL r L * 65 + row.length)
          _ ⟨_, _, none, none, none, _, _, [], _, _, rfl, rfl, out0, rfl⟩ ?_)
        rintro m ρ' M' ⟨o7, o8, o11, o12, o14, kw, row, fd, L, W, rfl, rfl, out, rfl⟩
        refine DT.to (d := !row.isEmpty) (dt_cmp (de_var h 9 rfl rfl rfl) (do_lst da_nil).frz (wo_neD h (.ref 1 rfl) .id (datB_spots 57 row) rfl ⟨by show D.bl (!eqD (D.lst _) (D.lst [])) = _; rw [eqD_nil]; simp, rfl⟩)) ⟨fun c => ?_, fun c => ?_⟩
        · rcases List.eq_nil_or_concat row with e | ⟨row0, sp, e⟩
          · subst e; cases c
          · subst e
            rw [List.concat_eq_append] at out ⊢
            obtain ⟨hspL, mid⟩ := out.pop
            have hspr := hLs sp hspL
            obtain ⟨hsl, hin⟩ := spots_in_room r sp hspr
            have hs4 : sp.length ≤ 4 := by rcases hsl with e | e | e <;> omega
            have len0 := out.len
            have fd80 : ∀ (fd : List Stp) (L : Lf), Rep r (letF l) fd L → fd.length ≤ 80 := fun fd L hrep => by have := hrep.cnt; omega
            have fl0 := fd80 fd L out.rep
            refine wss_cons (ws_set h 8 rfl rfl (we_pop (xs := row0.map spotD) (d := spotD sp) 1 (de_var h 9 rfl rfl rfl) (by simp) ?_))
            refine wss_cons (ws_asg (DE.to de_bl (wg_sub (DE.to (de_var h 10 rfl rfl rfl) (DE.to (de_var h 8 rfl rfl rfl) (wst_dic h 0 rfl (spk_ok sp) (spk_D sp).symm (by have := out.wl; omega) ?_))))))
            generalize hkw1 : putN kw (spk sp) (.bl false) = kw1 at mid
            refine wss_one (ws_for h (wi_zp h rfl B.f_zip (wa_cons (DE.to (de_var h 8 rfl rfl rfl) (wa_cons (we_call h (ok_kept_by B) rfl (DA.to (da_cons (de_var h 2 rfl rfl rfl) (da_cons (de_var h 3 rfl rfl rfl) (da_cons (de_var h 8 rfl rfl rfl) da_nil))) ⟨r, kk, _, L, sp, rfl, hk, .ref 3 rfl, hsl, hin, fun s hs => (out.nd s hs).2, fun ks hkl hks => wa_nil ⟨_, _, _, _, rfl, .tup, .lst,
              (fun i ρ' M' => ∃ o7 o11 o12 o14 kw row fd L' W, ρ' = roundEnv r l kk pl pf Lsp nk o7 (some (spotD sp)) (some (.ref prow)) (some (.ref pw)) o11 o12 o14 ∧ M' = roundMem r ad (nlF Lsp) pw kw prow row pf fd pl L' M ∧ Mid r Lsp (letF l) L sp row0.length i kw row fd L' W),
              ⟨_, _, _, _, kw1, row0, fd, L, _, rfl, rfl, mid⟩, fun _ _ _ _ => ⟨.tup, .lst⟩, ?_, ?_⟩⟩)))))))
            · rintro i d ρ' M' hd ⟨o7, o11, o12, o14, kw, row, fd, L', W, rfl, rfl, md⟩
              obtain ⟨x, y, hx, hy, rfl⟩ := zp_get hd
              rw [List.getElem?_map] at hx hy
              cases hs : sp[i]? with
              | none => rw [hs] at hx; cases hx
              | some s =>
                cases ht : ks[i]? with
                | none => rw [ht] at hy; cases hy
                | some tb =>
                  rw [hs] at hx
                  rw [ht] at hy
                  cases hx
                  cases hy
                  have hi : i < sp.length := (List.getElem?_eq_some_iff.mp hs).1
                  have htb : Hs tb (atRows (fitL r sp (sp.map L)) i) := by
                    have := hks i hi
                    rw [List.getD_eq_getElem?_getD, ht] at this
                    exact this
                  have hsr : s ∈ r := hin s (List.mem_of_getElem? hs)
                  obtain ⟨ix, hix⟩ := List.mem_iff_getElem?.mp hsr
                  have h5 := (md.nd s hsr).2
                  refine wg_tup h (wgs_cons h 7 rfl rfl (wgs_cons h 11 rfl rfl (wgs_nil ?_))) rfl
                  refine wss_cons (ws_lcA h B 12 (L' s) .int (fun k => !atRows (fitL r sp (sp.map L)) i k) .int [("kind", 13)] (tg_name h 13 rfl rfl (by simp)) rfl ⟨wi_lstE (de_at h (.ref 3 rfl) (de_var h 3 rfl rfl rfl) (de_var h 7 rfl rfl rfl) (sk_ok s) (sk_D s).symm (left_at hsr)) rfl, by omega, fun k _ => ⟨_, rfl, fun X' ⟨h, B, _⟩ m => ?t1, fun _ X' ⟨h, B, _⟩ m => (de_var h 13 rfl rfl rfl)⟩⟩ fun pst => ?_)
                  case t1 => exact dt_cmp (de_var h 13 rfl rfl rfl) (de_var h 11 rfl rfl rfl) (wo_ninI h .dik ⟨by rw [htb k], rfl⟩)
                  refine wss_fz 12 rfl ?_
                  by_cases hst : struckL r L sp i (L' s) = []
                  · refine wss_one (ws_if (DT.to (d := false) (dt_cmp (de_var h 12 rfl rfl rfl) (do_lst da_nil).frz (wo_neD h .id .id (datB_ints 59 _) rfl ⟨by show D.bl (!eqD (D.lst _) (D.lst [])) = _; rw [eqD_nil]; unfold struckL at hst; rw [hst]; rfl, rfl⟩)) ⟨fun c => (nomatch c), fun _ => wss_nil ⟨_, _, _, _, kw, row, fd, L', W, rfl, rfl, md.skip hsl hs hst⟩⟩))
                  · refine wss_one (ws_if (DT.to (d := true) (dt_cmp (de_var h 12 rfl rfl rfl) (do_lst da_nil).frz (wo_neD h .id .id (datB_ints 59 _) rfl ⟨by show D.bl (!eqD (D.lst _) (D.lst [])) = _; rw [eqD_nil]; unfold struckL at hst; cases q : ((L' s).filter fun k => !atRows (fitL r sp (sp.map L)) i k) with | nil => exact absurd q hst | cons a b => rfl, rfl⟩)) ⟨fun _ => ?_, fun c => (nomatch c)⟩))
                    have hlat : (laterL Lsp W s).length ≤ 64 := filter_len _ _ _ (Nat.le_trans (nlF_nodup r _ s hLs) hLn)
                    have mnew := md.strike hLs hspL hs hst hlat
                    have fd1 := fd80 fd L' md.rep
                    have fd2 := fd80 _ _ mnew.rep
                    have l1 := md.len
                    have l2 := filter_len (fun k => !atRows (fitL r sp (sp.map L)) i k) _ _ h5
                    refine wss_cons (ws_asg (DE.to (DO.frz (do_lcA h B (L' s) .int (fun k => atRows (fitL r sp (sp.map L)) i k) .int [("kind", 13)] (tg_name h 13 rfl rfl (by simp)) rfl ⟨wi_lstE (de_at h (.ref 3 rfl) (de_var h 3 rfl rfl rfl) (de_var h 7 rfl rfl rfl) (sk_ok s) (sk_D s).symm (left_at hsr)) rfl, by omega, fun k _ => ⟨_, rfl, fun X' ⟨h, B, _⟩ m => dt_cmp (de_var h 13 rfl rfl rfl) (de_var h 11 rfl rfl rfl) (wo_inI h .dik ⟨by rw [htb k], rfl⟩), fun _ X' ⟨h, B, _⟩ m => (de_var h 13 rfl rfl rfl)⟩⟩))
                      (wg_sub (DE.to (de_var h 3 rfl rfl rfl) (DE.to (de_var h 7 rfl rfl rfl) (wst_dic h 3 rfl (sk_ok s) (sk_D s).symm (by simp [leftK, tabN]; omega) ?_))))))
                    have e1 : putN (leftK r L') (sk s) (MO.frz (.lst (((L' s).filter fun k => atRows (fitL r sp (sp.map L)) i k).map .int))) = leftK r (updL L' s (keptL r L sp i (L' s))) := left_put hsr
                    rw [e1]
                    refine wss_cons (ws_extend 2 (de_var h 4 rfl rfl rfl) (DO.frz (do_lcM h B (struckL r L sp i (L' s)) .int (fun k => stepD (s, k, sp)) [("kind", 13)] (tg_name h 13 rfl rfl (by simp)) rfl ⟨wi_lstE (de_var h 12 rfl rfl rfl) rfl, by unfold struckL; omega, fun k _ => ⟨_, rfl, fun X' ⟨h, B, _⟩ m => (de_tup (da_cons (de_var h 7 rfl rfl rfl) (da_cons (de_var h 13 rfl rfl rfl) (da_cons (de_var h 8 rfl rfl rfl) da_nil))))⟩⟩)) rfl .lst (by unfold struckL; simp only [List.length_map]; omega) ?_)
                    refine wss_cons (ws_lcA h B 14 (nlF Lsp s) spotD (fun q => !W q) spotD [("own", 15)] (tg_name h 15 rfl rfl (by simp)) rfl ⟨wi_refE _ (de_at h .dic (de_var h 6 rfl rfl rfl) (de_var h 7 rfl rfl rfl) (sk_ok s) (sk_D s).symm (nk_at s hsr)) (nearB_get hix [_, _, _, _] M) rfl, by have := nlF_nodup r _ s hLs; omega, fun q hq => ⟨_, rfl, fun X' ⟨h, B, _⟩ m => ?t2, fun _ X' ⟨h, B, _⟩ m => (de_var h 15 rfl rfl rfl)⟩⟩ fun plt => ?_)
                    case t2 => exact dt_not (dt_val (de_get h (.ref 1 rfl) (de_var h 10 rfl rfl rfl) (de_var h 15 rfl rfl rfl) de_bl (spk_ok q) (spk_D q).symm (by rw [md.wt q (mem_nlF.mp hq).1]; rfl)))
                    refine wss_fz 14 rfl ?_
                    refine wss_cons (ws_extend 1 (de_var h 9 rfl rfl rfl) (de_var h 14 rfl rfl rfl) rfl .lst (by unfold laterL at hlat; simp only [List.length_map]; omega) ?_)
                    refine wss_one (ws_update h (ps := tabN spk (fun _ => .bl true) (laterL Lsp W s)) 0 (de_var h 10 rfl rfl rfl) (DO.frz (do_lcM h B (laterL Lsp W s) spotD (fun q => .tup [keyD (spk q), .bl true]) [("own", 15)] (tg_name h 15 rfl rfl (by simp)) rfl ⟨wi_lstE (de_var h 14 rfl rfl rfl) rfl, by omega, fun q _ => ⟨_, rfl, fun X' ⟨h, B, _⟩ m => de_tup (da_cons (DE.as (de_var h 15 rfl rfl rfl) (spk_D q).symm) (da_cons de_bl da_nil))⟩⟩)) rfl (by rw [MO.frz, ← tab_prD (key := spk) (val := fun _ => .bl true)]; exact .lst) (tab_ok spk_ok) (by have := md.wl; simp [tabN]; omega) ⟨_, _, _, _, _, row ++ laterL Lsp W s, fd ++ (struckL r L sp i (L' s)).map (fun k => (s, k, sp)), _, _, rfl, ?_, mnew⟩)
                    simp [roundMem, laterL, List.map_map, Function.comp_def]
            · rintro ρ' M' ⟨o7, o11, o12, o14, kw, row, fd, L', W, rfl, rfl, md⟩
              have hz : (zpD (sp.map sqD) (ks.map .dik)).length = sp.length := by simp [zpD, List.length_zip, hkl]
              rw [hz] at md
              have ou := md.done hin
              have me := md.me
              exact ⟨_, by rw [List.length_append, List.length_singleton]; omega, _, _, _, _, _, kw, row, fd, L', W, rfl, rfl, ou, rfl⟩
        · have e : row = [] := by cases row <;> simp at c ⊢
          subst e
          refine wss_one (ws_ret (DE.to (de_tup (da_cons (de_var h 3 rfl rfl rfl) (da_cons (de_var h 4 rfl rfl rfl) da_nil))) ⟨.tup [.dic (leftK r L), .lst (fd.map stepD)], M, [(pw, .dic kw), (prow, .lst []), (pf, .lst (fd.map stepD)), (pl, .dic (leftK r L))] ++ nearB r ad (nlF Lsp), by simp [roundMem], .tup (.cons (Fz.ref (mo := .dic (leftK r L)) (List.mem_append_left _ (by simp))) (.cons (Fz.ref (mo := .lst (fd.map stepD)) (List.mem_append_left _ (by simp))) .nil)), q L fd out.rep out.nd fun sp hsp => ?_⟩))
          have hsp' : sp ∈ Lsp := hp.mem_iff.mpr hsp
          refine out.ws sp hsp' ?_
          cases cW : W sp with
          | false => rfl
          | true => exact absurd (out.wr sp hsp' cW) (by simp)
end DL

set_option maxHeartbeats 8000000
/-! walks: borders, the search. -/
namespace DL
open PySem PySem.Spec PyProof.Rows L2 Evl

local macro_rules
  | `(tactic| walk_at "op") => `(tactic| first
    | exact wo_add ⟨rfl, rfl⟩ | exact wo_sub ⟨rfl, rfl⟩ | exact wo_lt ⟨rfl, rfl⟩ | exact wo_le ⟨rfl, rfl⟩ | exact wo_gt ⟨rfl, rfl⟩ | exact wo_ge ⟨rfl, rfl⟩
    | exact wo_eqi ⟨rfl, rfl⟩ | exact wo_nei ⟨rfl, rfl⟩ | exact wo_eqb ⟨rfl, rfl⟩ | exact wo_neb ⟨rfl, rfl⟩ | exact wo_isN ⟨rfl, rfl⟩ | exact wo_notN ⟨rfl, rfl⟩)
  | `(tactic| walk_at "sq") => `(tactic| first | exact Sq.tup | exact Sq.lst | exact Sq.tupN | exact Sq.ref _ rfl)
  | `(tactic| walk_at "at") => `(tactic| first | rfl | assumption)
  | `(tactic| walk_at "isi") => `(tactic| first | exact wc_isI (by assumption) ⟨rfl, rfl⟩ | exact wc_isB (by assumption) ⟨rfl, rfl⟩ | exact wc_isT (by assumption) ⟨rfl, rfl⟩ | exact wc_isL (by assumption) ⟨rfl, rfl⟩ | exact wc_isLT (by assumption) ⟨rfl, rfl⟩ | exact wc_isBS (by assumption) ⟨rfl, rfl⟩)
  | `(tactic| walk_at "len") => `(tactic| exact wc_len (by first | exact Sq.tup | exact Sq.lst | exact Sq.tupN | exact Sq.ref _ rfl) ⟨rfl, rfl⟩)
  | `(tactic| walk_at "tuple") => `(tactic| exact wc_tuple (by first | exact Sq.lst | exact Sq.tup | exact Sq.tupN | exact Sq.ref _ rfl) ⟨rfl, rfl⟩)
  | `(tactic| walk_at "all") => `(tactic| exact wc_all (by assumption) (by first | exact SqO.lst | exact SqO.ref _ rfl) ⟨rfl, rfl⟩)

local macro_rules
  | `(tactic| walk_at "is_number") => `(tactic| exact ⟨_, rfl, by assumption, rfl, rfl⟩)
  | `(tactic| walk_at "tupled") => `(tactic| exact ⟨_, rfl, by assumption, rfl, rfl⟩)

def fallsB (r : List Pt) (L : Lf) : Bool := !(r.filter fun s => (L s).isEmpty).isEmpty
theorem falls_iff {r : List Pt} {L : Lf} : fallsB r L = true ↔ ∃ s ∈ r, L s = [] := by
  unfold fallsB
  constructor
  · intro h
    cases e : r.filter fun s => (L s).isEmpty with
    | nil => rw [e] at h; cases h
    | cons s t =>
      have : s ∈ r.filter fun s => (L s).isEmpty := by rw [e]; exact List.mem_cons_self
      obtain ⟨h1, h2⟩ := List.mem_filter.mp this
      exact ⟨s, h1, by simpa using h2⟩
  · rintro ⟨s, h1, h2⟩
    have : s ∈ r.filter fun s => (L s).isEmpty := List.mem_filter.mpr ⟨h1, by rw [h2]; rfl⟩
    cases e : r.filter fun s => (L s).isEmpty with
    | nil => rw [e] at this; cases this
    | cons s t => rfl
theorem keysD_tab (r : List Pt) (L : Lf) : keysD (leftK r L) = r.map sqD := by
  unfold keysD leftK tabN
  rw [List.map_map]
  exact List.map_congr_left fun s _ => sk_D s
def s_falls_in : SpD := fun ds M Q => ∃ (r : List Pt) (L : Lf), ds = [.dic (leftK r L)] ∧ r.length ≤ 1000 ∧ Q (.bl (fallsB r L)) M
theorem ok_falls_in {X : Cx} (B : Bs X) : Dn X "falls_in" 1 ["left"] s_falls_in := by
  refine def_by B 44 31 31 (k := 0) (N := ["left", "square"]) rfl rfl ⟨rfl, rfl, rfl, by decide +kernel, rfl, by decide +kernel, by decide +kernel⟩ (fun _ _ _ _ _ _ us hl => match us, hl with | [_], _ => rfl) ?len ?body
  case len => rintro _ _ _ ⟨_, _, rfl, _⟩; rfl
  case body =>
    rintro X' h B _ M QD ⟨r, L, rfl, hr, q⟩
    refine wss_one (ws_ret (DE.to (d := .bl (fallsB r L)) (de_cmp (DO.frz (do_lcA h B r sqD (fun s => (L s).isEmpty) sqD [("square", 1)] (tg_name h 1 rfl rfl (by simp)) rfl ⟨wi_ky (DE.to (de_var h 0 rfl rfl rfl) ⟨_, rfl, keysD_tab r L, fun _ => trivial, rfl⟩), by omega, fun s hs => ⟨_, rfl, fun X' ⟨h, B, _⟩ m => ?t, fun _ X' ⟨h, B, _⟩ m => (de_var h 1 rfl rfl rfl)⟩⟩)) (do_lst da_nil).frz (wo_neD h .id .id ?g rfl ⟨by show D.bl (!eqD (D.lst _) (D.lst [])) = _; rw [eqD_nil]; simp [fallsB], rfl⟩)) (.now q)))
    case t => exact dt_cmp (de_at h .dic (de_var h 0 rfl rfl rfl) (de_var h 1 rfl rfl rfl) (sk_ok s) (sk_D s).symm (left_at hs)) (do_lst da_nil).frz (wo_eqD h .id .id (datB_ints 59 _) rfl ⟨by show D.bl (eqD (D.lst _) (D.lst [])) = _; rw [eqD_nil]; simp, rfl⟩)
    case g =>
      show ((r.filter fun s => (L s).isEmpty).map sqD).all (datB 59) = true
      rw [List.all_eq_true]
      intro d hd
      obtain ⟨x, _, rfl⟩ := List.mem_map.mp hd
      exact datB_sq 58 x
def s_is_row_of : SpD := fun ds M Q => ∃ (r : List Pt) (d : D), ds = [roomD r, d] ∧ r.length ≤ 1000 ∧ okD 2 d = true ∧ Q (.bl (kindsD (rimL r).length d)) M
theorem ok_is_row_of {X : Cx} (B : Bs X) : Dn X "is_row_of" 5 ["room", "thing"] s_is_row_of := by
  refine def_by B 46 32 32 (k := 4) (N := ["room", "thing"]) rfl rfl ⟨rfl, rfl, rfl, by decide +kernel, rfl, by decide +kernel, by decide +kernel⟩ (fun _ _ _ _ _ _ us hl => match us, hl with | [_, _], _ => rfl) ?len ?body
  case len => rintro _ _ _ ⟨_, _, rfl, _⟩; rfl
  case body =>
    rintro X' h B _ M QD ⟨r, d, rfl, hr, ho, q⟩
    exact wss_one (ws_ret (DE.to (de_call h (ok_are_kinds B) rfl (da_cons (de_var h 1 rfl rfl rfl) (da_cons (DE.as (de_callB h rfl B.f_len boot_len (da_cons (de_call h (ok_rim_in B) rfl (da_cons (de_var h 0 rfl rfl rfl) da_nil) ⟨r, rfl, hr, rfl, rfl⟩) da_nil) (wc_len .lst ⟨rfl, rfl⟩)) (by rw [List.length_map])) da_nil)) ⟨d, (rimL r).length, rfl, ho, rfl, rfl⟩) (.now q)))
/-- a border's kinds for a room -/
def GoodB (r : List Pt) (bs : List Int) : Prop := bs.length = (rimL r).length ∧ ∀ k ∈ bs, k ∈ kindsL
theorem inD_kind {k : Int} (h : k ∈ kindsL) : (isNumD (.int k) && inD 0 4 (.int k)) = true := by
  rcases kind_cases h with rfl | rfl | rfl | rfl | rfl <;> rfl
theorem kindsD_good {r : List Pt} {bs : List Int} (h : GoodB r bs) : kindsD (rimL r).length (intsT bs) = true := by
  unfold kindsD
  simp only [isTupD, lenD, itemsD, List.length_map, h.1, decide_true, Bool.true_and, List.all_eq_true, List.mem_map]
  rintro d ⟨k, hk, rfl⟩
  exact inD_kind (h.2 k hk)
theorem okD_ints (n : Nat) {bs : List Int} (h : bs.length ≤ 1000) : okD (n + 1) (intsT bs) = true := by
  simp only [okD, List.length_map, h, decide_true, Bool.and_true, List.all_eq_true, List.mem_map]
  rintro d ⟨k, _, rfl⟩
  cases n <;> rfl
theorem rimL_len (r : List Pt) : (rimL r).length ≤ r.length := List.length_filter_le _ _
def s_border_sure : SpD := fun ds M Q => ∃ (d e : D) (r : List Pt) (bs : List Int), ds = [d, e] ∧ okD 2 d = true ∧ tupD d = roomD r ∧ Rm r ∧ okD 1 e = true ∧ tupD e = intsT bs ∧ GoodB r bs ∧ Q (.tup [roomD r, intsT bs]) M
theorem ok_border_sure {X : Cx} (B : Bs X) : Dn X "border_sure" 7 ["room", "border"] s_border_sure := by
  refine def_by B 47 33 33 (k := 6) (N := ["room", "border", "own", "told"]) rfl rfl ⟨rfl, rfl, rfl, by decide +kernel, rfl, by decide +kernel, by decide +kernel⟩ (fun _ _ _ _ _ _ us hl => match us, hl with | [_, _], _ => rfl) ?len ?body
  case len => rintro _ _ _ ⟨_, _, _, _, rfl, _⟩; rfl
  case body =>
    rintro X' h B _ M QD ⟨d, e, r, bs, rfl, ho, ht, hr, ho2, ht2, hb, q⟩
    have hl := hr.len
    have hl2 := rimL_len r
    refine wss_cons (ws_par h 2 3 rfl rfl (by decide) rfl rfl (h.sw0 fun E e => by cases E; cases e; rfl) (DE.to (de_call h (ok_sure_room B) rfl (da_cons (de_var h 0 rfl rfl rfl) da_nil) ⟨d, r, rfl, ho, ht, hr, rfl, rfl⟩) (DE.to (DE.as (de_call h (ok_tupled 1 B) rfl (da_cons (de_var h 1 rfl rfl rfl) da_nil) ⟨e, rfl, ho2, rfl, rfl⟩) ht2) ?_)))
    refine wss_cons (ws_if (DT.to (d := false) (dt_not (dt_val (DE.as (de_call h (ok_is_row_of B) rfl (da_cons (de_var h 2 rfl rfl rfl) (da_cons (de_var h 3 rfl rfl rfl) da_nil)) ⟨r, _, rfl, by omega, okD_ints 1 (by rw [hb.1]; omega), rfl, rfl⟩) (by rw [kindsD_good hb])))) ⟨fun c => (nomatch c), fun _ => wss_nil (wss_one (ws_ret (DE.to (de_tup (da_cons (de_var h 2 rfl rfl rfl) (da_cons (de_var h 3 rfl rfl rfl) da_nil))) (.now q))))⟩))
def letsB (r : List Pt) (bs : List Int) : Lets := ((rimL r).zip bs).map fun x => (x.1, [x.2])
theorem letsB_D (r : List Pt) (bs : List Int) : prD (letsP (letsB r bs)) = ((rimL r).zip bs).map fun x => .tup [sqD x.1, .tup [.int x.2]] := by
  unfold prD letsP letsB
  rw [List.map_map, List.map_map]
  exact List.map_congr_left fun x _ => by simp [Function.comp, keyD, keyDs]
theorem zp_typed (xs : List Pt) (ys : List Int) : zpD (xs.map sqD) (ys.map .int) = (xs.zip ys).map fun x => .tup [sqD x.1, .int x.2] := by
  unfold zpD
  rw [List.zip_map, List.map_map]
  rfl
def s_lets_for : SpD := fun ds M Q => ∃ (r : List Pt) (bs : List Int), ds = [roomD r, intsT bs] ∧ r.length ≤ 1000 ∧ Q (letsD (letsB r bs)) M
theorem ok_lets_for {X : Cx} (B : Bs X) : Dn X "lets_for" 3 ["room", "border"] s_lets_for := by
  refine def_by B 48 34 34 (k := 2) (N := ["room", "border", "square", "kind"]) rfl rfl ⟨rfl, rfl, rfl, by decide +kernel, rfl, by decide +kernel, by decide +kernel⟩ (fun _ _ _ _ _ _ us hl => match us, hl with | [_, _], _ => rfl) ?len ?body
  case len => rintro _ _ _ ⟨_, _, rfl, _⟩; rfl
  case body =>
    rintro X' h B _ M QD ⟨r, bs, rfl, hr, q⟩
    refine wss_one (ws_ret (DE.to (de_callTy h rfl B.f_tuple boot_tuple (da_cons (DO.frz (do_lcM h B ((rimL r).zip bs) (fun x => .tup [sqD x.1, .int x.2]) (fun x => .tup [sqD x.1, .tup [.int x.2]]) [("square", 2), ("kind", 3)] (tg_pair h 2 3 rfl rfl rfl rfl (by simp) (by simp)) rfl
      ⟨wi_zp h rfl B.f_zip ((da_cons (de_call h (ok_rim_in B) rfl (da_cons (de_var h 0 rfl rfl rfl) da_nil) ⟨r, rfl, hr, rfl, rfl⟩) (da_cons (de_var h 1 rfl rfl rfl) da_nil)).to ⟨_, _, _, _, rfl, .lst, .tup, zp_typed _ _, fun _ => ⟨.lst, .tup⟩, rfl⟩), by
        have := rimL_len r
        rw [List.length_zip]; omega, fun x hx => ⟨_, rfl, fun X' ⟨h, B, _⟩ m => (de_tup (da_cons (de_var h 2 rfl rfl rfl) (da_cons (de_tup (da_cons (de_var h 3 rfl rfl rfl) da_nil)) da_nil)))⟩⟩)) da_nil) (wc_tupleN .lst ⟨by rw [← letsB_D], rfl⟩)) (.now q)))
end DL

set_option maxHeartbeats 8000000
/-! walks: the search. -/
namespace DL
open PySem PySem.Spec PyProof.Rows L2 Evl

local macro_rules
  | `(tactic| walk_at "op") => `(tactic| first
    | exact wo_add ⟨rfl, rfl⟩ | exact wo_sub ⟨rfl, rfl⟩ | exact wo_lt ⟨rfl, rfl⟩ | exact wo_le ⟨rfl, rfl⟩ | exact wo_gt ⟨rfl, rfl⟩ | exact wo_ge ⟨rfl, rfl⟩
    | exact wo_eqi ⟨rfl, rfl⟩ | exact wo_nei ⟨rfl, rfl⟩ | exact wo_eqb ⟨rfl, rfl⟩ | exact wo_neb ⟨rfl, rfl⟩ | exact wo_isN ⟨rfl, rfl⟩ | exact wo_notN ⟨rfl, rfl⟩)
  | `(tactic| walk_at "sq") => `(tactic| first | exact Sq.tup | exact Sq.lst | exact Sq.tupN | exact Sq.ref _ rfl)
  | `(tactic| walk_at "at") => `(tactic| first | rfl | assumption)
  | `(tactic| walk_at "isi") => `(tactic| first | exact wc_isI (by assumption) ⟨rfl, rfl⟩ | exact wc_isB (by assumption) ⟨rfl, rfl⟩ | exact wc_isT (by assumption) ⟨rfl, rfl⟩ | exact wc_isL (by assumption) ⟨rfl, rfl⟩ | exact wc_isLT (by assumption) ⟨rfl, rfl⟩ | exact wc_isBS (by assumption) ⟨rfl, rfl⟩)
  | `(tactic| walk_at "len") => `(tactic| exact wc_len (by first | exact Sq.tup | exact Sq.lst | exact Sq.tupN | exact Sq.ref _ rfl) ⟨rfl, rfl⟩)
  | `(tactic| walk_at "tuple") => `(tactic| exact wc_tuple (by first | exact Sq.lst | exact Sq.tup | exact Sq.tupN | exact Sq.ref _ rfl) ⟨rfl, rfl⟩)
  | `(tactic| walk_at "all") => `(tactic| exact wc_all (by assumption) (by first | exact SqO.lst | exact SqO.ref _ rfl) ⟨rfl, rfl⟩)

local macro_rules
  | `(tactic| walk_at "is_number") => `(tactic| exact ⟨_, rfl, by assumption, rfl, rfl⟩)
  | `(tactic| walk_at "tupled") => `(tactic| exact ⟨_, rfl, by assumption, rfl, rfl⟩)

theorem atI_hd {α : Type} (x : α) (xs : List α) : L2.atI (x :: xs) 0 = some x := L2.atI_nat (j := 0) rfl
theorem XOk.sw1 {X : Cx} {N : List Str} {sc : Scope} {k : Nat} {b : Bool} (h : XOk X N sc k b) {e : Expr} {t : Option Expr} {l : Nat} {r : Sem Bool} (q : ∀ E : Env, E.scope = sc → swapsWith e t l E = r) : swapsWith e t l X.env = r := q X.env h.scp
/-- one kind for each square, within what is let, holding together everywhere -/
def IsFl (r : List Pt) (L : Lf) (F : Pt → Int) : Prop := (∀ s ∈ r, F s ∈ L s) ∧ Cons r fun s => [F s]
theorem IsFl.le {r : List Pt} {L : Lf} {F : Pt → Int} (h : IsFl r L F) : LeF r (fun s => [F s]) L := fun s hs k hk => by
  rw [List.mem_singleton.mp hk]; exact h.1 s hs
theorem IsFl.mono {r : List Pt} {L L' : Lf} {F : Pt → Int} (h : IsFl r L F) (le : LeF r L L') : IsFl r L' F := ⟨fun s hs => le s hs _ (h.1 s hs), h.2⟩
theorem IsFl.rep {r : List Pt} {L L' : Lf} {F : Pt → Int} {fd : List Stp} (h : IsFl r L F) (q : Rep r L fd L') : IsFl r L' F :=
  ⟨fun s hs => q.keeps h.2 h.le s hs _ (by simp), h.2⟩
def srt (l : List Int) : List Int := l.mergeSort fun a b => leD (.int a) (.int b)
theorem srt_perm (l : List Int) : (srt l).Perm l := List.mergeSort_perm _ _
theorem srt_D (l : List Int) : (l.map D.int).mergeSort leD = (srt l).map .int := by
  unfold srt
  rw [List.map_mergeSort]
  intro a _ b _; rfl
/-- what is tried next: the first open square takes one kind -/
def kidL (r : List Pt) (L : Lf) (s0 : Pt) (k : Int) : Lets := r.map fun s => (s, if s = s0 then [k] else srt (L s))
theorem lookup_fun {s : Pt} (g : Pt → List Int) : ∀ l : List Pt, (l.map fun x => (x, g x)).lookup s = if s ∈ l then some (g s) else none
  | [] => by simp
  | x :: l => by
    rw [List.map_cons]
    by_cases e : s = x
    · subst e; simp [List.lookup]
    · have n2 : (s == x) = false := by simpa using e
      simp only [List.lookup, n2, lookup_fun g l, List.mem_cons, e, false_or]
theorem kid_let {r : List Pt} {L : Lf} {s0 : Pt} {k : Int} {s : Pt} (h : s ∈ r) : letF (kidL r L s0 k) s = if s = s0 then [k] else srt (L s) := by
  unfold letF toldF kidL
  rw [← List.map_reverse, lookup_fun (fun s => if s = s0 then [k] else srt (L s)) r.reverse, if_pos (List.mem_reverse.mpr h)]
  rfl
theorem kid_ok {r : List Pt} {L : Lf} {s0 : Pt} {k : Int} (h : ∀ s ∈ r, (L s).Nodup ∧ (L s).length ≤ 5) : LetOk (kidL r L s0 k) := fun x hx => by
  obtain ⟨s, hs, rfl⟩ := List.mem_map.mp hx
  show (if s = s0 then [k] else srt (L s)).Nodup ∧ _
  split
  · simp
  · exact ⟨(srt_perm _).nodup_iff.mpr (h s hs).1, by rw [(srt_perm _).length_eq]; exact (h s hs).2⟩
theorem kid_le {r : List Pt} {L : Lf} {s0 : Pt} {k : Int} (hk : k ∈ L s0) : LeF r (letF (kidL r L s0 k)) L := fun s hs x hx => by
  rw [kid_let hs] at hx
  split at hx
  · rename_i e; subst e; rw [List.mem_singleton.mp hx]; exact hk
  · exact (srt_perm _).mem_iff.mp hx
theorem kid_fl {r : List Pt} {L : Lf} {s0 : Pt} {F : Pt → Int} (h : IsFl r L F) (hs0 : s0 ∈ r) : F s0 ∈ L s0 ∧ IsFl r (letF (kidL r L s0 (F s0))) F :=
  ⟨h.1 s0 hs0, fun s hs => by
    rw [kid_let hs]
    split
    · rename_i e; subst e; exact List.mem_singleton.mpr rfl
    · exact (srt_perm _).mem_iff.mpr (h.1 s hs), h.2⟩
theorem kid_cnt {r : List Pt} {L : Lf} {s0 : Pt} {k : Int} (hs0 : s0 ∈ r) (h : 1 < (L s0).length) : cntL r (letF (kidL r L s0 k)) < cntL r L := by
  unfold cntL
  refine sum_lt (a := s0) (fun s hs => ?_) hs0 ?_
  · rw [kid_let hs]
    split
    · rename_i e; subst e; simp; omega
    · rw [(srt_perm _).length_eq]; exact Nat.le_refl _
  · rw [kid_let hs0, if_pos rfl]
    simpa using h
theorem cnt_le {r : List Pt} {L L' : Lf} {fd : List Stp} (q : Rep r L fd L') : cntL r L' ≤ cntL r L := by have := q.cnt; omega
/-- the states of the search -/
structure Sr (r : List Pt) (L0 : Lf) (T : Nat) (row : List Lets) : Prop where
  ok : ∀ l ∈ row, LetOk l ∧ l.length ≤ 1000 ∧ LeF r (letF l) L0
  all : ∀ F, IsFl r L0 F → ∃ l ∈ row, IsFl r (letF l) F
  dep : ∀ (i : Nat) l, row[i]? = some l → i + 5 * cntL r (letF l) ≤ 5 * T
def meS (r : List Pt) (row : List Lets) : Nat := (row.map fun l => 6 ^ cntL r (letF l)).sum
theorem Sr.len {r : List Pt} {L0 : Lf} {T : Nat} {row : List Lets} (h : Sr r L0 T row) (hT : T ≤ 80) : row.length ≤ 401 := by
  rcases Nat.eq_zero_or_pos row.length with e | e
  · omega
  · have := h.dep (row.length - 1) row[row.length - 1] (List.getElem?_eq_getElem (by omega))
    omega
theorem meS_app (r : List Pt) (a b : List Lets) : meS r (a ++ b) = meS r a + meS r b := by
  unfold meS
  rw [List.map_append, List.sum_append]
theorem kids_me {r : List Pt} {L : Lf} {s0 : Pt} (hs0 : s0 ∈ r) (h : 1 < (L s0).length) (T : Nat) (hT : cntL r L ≤ T) : ∀ ks : List Int, ks.length ≤ 5 → meS r (ks.map (kidL r L s0)) < 6 ^ T := fun ks hk => by
  have hp : ∀ k, 6 ^ cntL r (letF (kidL r L s0 k)) ≤ 6 ^ (T - 1) := fun k => Nat.pow_le_pow_right (by decide) (by have := kid_cnt (k := k) hs0 h; omega)
  have h1 : meS r (ks.map (kidL r L s0)) ≤ (ks.map fun _ => 6 ^ (T - 1)).sum := by
    unfold meS
    rw [List.map_map]
    exact sum_le fun k _ => hp k
  rw [sum_const] at h1
  have hT1 : 1 ≤ T := by have := kid_cnt (k := 0) hs0 h; omega
  have h2 : 6 ^ T = 6 ^ (T - 1) * 6 := by rw [← Nat.pow_succ]; congr 1; omega
  have h3 : 0 < 6 ^ (T - 1) := Nat.pow_pos (by decide)
  have h4 : 6 ^ (T - 1) * ks.length ≤ 6 ^ (T - 1) * 5 := Nat.mul_le_mul_left _ hk
  omega
theorem datB_lets (n : Nat) (l : Lets) : datB (n + 3) (letsD l) = true := by
  simp only [datB, prD, letsP, List.map_map, List.all_eq_true, List.mem_map]
  rintro d ⟨x, _, rfl⟩
  simp only [Function.comp, keyD, keyDs, datB, List.all_cons, List.all_nil, Bool.and_true, List.all_map, List.all_eq_true, Bool.and_eq_true]
  refine ⟨?_, fun y _ => ?_⟩ <;> cases n <;> simp [datB]
theorem eqD_sq (p q : Pt) : eqD (sqD p) (sqD q) = decide (p = q) := by
  unfold eqD
  simp only [toPy, toPys, PyData.eqv, PyData.eqvAll, Bool.and_true]
  obtain ⟨a, b⟩ := p
  obtain ⟨c, d⟩ := q
  by_cases h1 : a = c
  · by_cases h2 : b = d
    · subst h1 h2; simp
    · simp [h1, h2]
  · simp [h1]
theorem ints_alike (l : List Int) : PySem.W.AllAlike ((l.map D.int).map toPy) := by
  intro d hd d' hd'
  obtain ⟨x, hx, rfl⟩ := List.mem_map.mp hd
  obtain ⟨y, hy, rfl⟩ := List.mem_map.mp hd'
  obtain ⟨a, _, rfl⟩ := List.mem_map.mp hx
  obtain ⟨c, _, rfl⟩ := List.mem_map.mp hy
  simp [toPy, PySem.W.alike]
theorem ints_sortable (l : List Int) : PySem.W.Sortable ((l.map D.int).map toPy) := .inr fun d hd => by
  obtain ⟨x, hx, rfl⟩ := List.mem_map.mp hd
  obtain ⟨a, _, rfl⟩ := List.mem_map.mp hx
  simp [toPy]
theorem wc_srt {X : Cx} {N : List Str} {sc : Scope} {k : Nat} {b : Bool} {M : MS} {d : D} {l : List Int} (h : XOk X N sc k b) (s : SqO M d (l.map .int)) : WC X (.builtin "sorted") [d] M fun d' M2 => ∃ p, d' = .ref p ∧ M2 = (p, .lst ((srt l).map .int)) :: M :=
  wc_sorted h s (fun e he => by obtain ⟨x, _, rfl⟩ := List.mem_map.mp he; rfl) (ints_alike l) (ints_sortable l) fun p => ⟨p, rfl, by rw [srt_D]⟩
def flD (r : List Pt) (F : Pt → Int) : D := .tup (r.map fun s => .int (F s))
def s_floor_for : SpD := fun ds M Q => ∃ (r : List Pt) (l : Lets), ds = [roomD r, letsD l] ∧ r.Nodup ∧ r.length ≤ 16 ∧ LetOk l ∧ l.length ≤ 1000 ∧
  (∀ F, IsFl r (letF l) F → Q (flD r F) M) ∧ ((∀ F, ¬ IsFl r (letF l) F) → Q .non M)
theorem ok_floor_for {X : Cx} (B : Bs X) : Dn X "floor_for" 7 ["room", "lets"] s_floor_for := by
  refine def_by B 49 35 35 (k := 6) (N := ["room", "lets", "row", "left", "open_at", "square", "kind", "later"]) rfl rfl ⟨rfl, rfl, rfl, by decide +kernel, rfl, by decide +kernel, by decide +kernel⟩ (fun _ _ _ _ _ _ us hl => match us, hl with | [_, _], _ => rfl) ?len ?body
  case len => rintro _ _ _ ⟨_, _, rfl, _⟩; rfl
  case body =>
    rintro X' h B _ M QD ⟨r, l, rfl, nd, hr, lo, hll, q1, q2⟩
    refine wss_cons (ws_set h 2 rfl rfl (DO.to (do_lst (da_cons (de_var h 1 rfl rfl rfl) da_nil)) fun prow => ?_))
    have c0 : cntL r (letF l) ≤ 80 := by
      have h1 : cntL r (letF l) ≤ (r.map fun _ => 5).sum := sum_le fun s _ => (letF_ok lo s).2
      rw [sum_const] at h1
      omega
    have sr0 : Sr r (letF l) (cntL r (letF l)) [l] := ⟨fun x hx => by rw [List.mem_singleton.mp hx]; exact ⟨lo, hll, LeF.refl⟩, fun F hF => ⟨l, by simp, hF⟩, fun i x hx => by
      cases i with
      | zero => simp at hx; subst hx; omega
      | succ i => simp at hx⟩
    refine wss_cons (ws_while h (fun m ρ' M' => ∃ o3 o4 o6 o7 Gs row, ρ' = [some (roomD r), some (letsD l), some (.ref prow), o3, o4, none, o6, o7] ∧ M' = (prow, .lst (row.map letsD)) :: (Gs ++ M) ∧ Sr r (letF l) (cntL r (letF l)) row ∧ m = meS r row)
      _ ⟨none, none, none, none, [], [l], rfl, rfl, sr0, rfl⟩ ?_)
    · rintro m ρ' M' ⟨o3, o4, o6, o7, Gs, row, rfl, rfl, sr, rfl⟩
      refine DT.to (d := !row.isEmpty) (dt_cmp (de_var h 2 rfl rfl rfl) (do_lst da_nil).frz (wo_neD h (.ref 0 rfl) .id ?g rfl ⟨by show D.bl (!eqD (D.lst _) (D.lst [])) = _; rw [eqD_nil]; simp, rfl⟩)) ⟨fun c => ?_, fun c => ?_⟩
      case g =>
        show (row.map letsD).all (datB 59) = true
        rw [List.all_eq_true]
        intro d hd
        obtain ⟨x, _, rfl⟩ := List.mem_map.mp hd
        exact datB_lets 56 x
      · rcases List.eq_nil_or_concat row with e | ⟨row0, lx, e⟩
        · subst e; cases c
        · subst e
          rw [List.concat_eq_append] at sr ⊢
          have hlx := sr.ok lx (by simp)
          have hlen := sr.len c0
          rw [List.length_append, List.length_singleton] at hlen
          refine wss_cons (ws_set h 3 rfl rfl (we_ix (we_call h (ok_rounds_in B) rfl (wa_cons (DE.to (de_var h 0 rfl rfl rfl) (wa_cons (we_pop (xs := row0.map letsD) (d := letsD lx) 0 (de_var h 2 rfl rfl rfl) (by simp) (wa_nil ⟨r, lx, rfl, nd, hr, hlx.1, hlx.2.1, fun L fd hrep hnd hst => ?_⟩))))))))
          refine DE.to de_int ⟨_, 0, _, .tup, rfl, rfl, ?_⟩
          have hdepT := sr.dep row0.length lx (by simp)
          have hcl := cnt_le hrep
          have hme : meS r (row0 ++ [lx]) = meS r row0 + 6 ^ cntL r (letF lx) := by rw [meS_app]; simp [meS]
          have hpow : 0 < 6 ^ cntL r (letF lx) := Nat.pow_pos (by decide)
          refine wss_cons (ws_if (DT.to (dt_val (de_call h (ok_falls_in B) rfl (da_cons (de_var h 3 rfl rfl rfl) da_nil) ⟨r, L, rfl, by omega, rfl, rfl⟩)) ⟨fun cf => wss_one (ws_cont ?_), fun cf => wss_nil ?_⟩))
          · -- some square has nothing left
            refine ⟨meS r row0, by rw [hme]; omega, _, _, _, _, Gs, row0, rfl, rfl, ⟨fun x hx => sr.ok x (List.mem_append_left _ hx), fun F hF => ?_, fun i x hx => sr.dep i x (by rw [List.getElem?_append_left (List.getElem?_eq_some_iff.mp hx).1]; exact hx)⟩, rfl⟩
            obtain ⟨y, hy, hF'⟩ := sr.all F hF
            rcases List.mem_append.mp hy with hy | hy
            · exact ⟨y, hy, hF'⟩
            · rw [List.mem_singleton.mp hy] at hF'
              obtain ⟨s, hs, e⟩ := falls_iff.mp cf
              have := (hF'.rep hrep).1 s hs
              rw [e] at this; cases this
          · have hne : ∀ s ∈ r, L s ≠ [] := fun s hs e => by
              rw [falls_iff.mpr ⟨s, hs, e⟩] at cf; cases cf
            refine wss_cons (ws_set h 4 rfl rfl (DO.to (do_lcA h B r sqD (fun s => decide (1 < (L s).length)) sqD [("square", 5)] (tg_name h 5 rfl rfl (by simp)) rfl ⟨wi_tupE (de_var h 0 rfl rfl rfl) rfl, by omega, fun s hs => ⟨_, rfl, fun X' ⟨h, B, _⟩ m => ?t, fun _ X' ⟨h, B, _⟩ m => (de_var h 5 rfl rfl rfl)⟩⟩) fun pop => ?_) (hs := h.sw1 fun E e => by cases E; cases e; rfl))
            case t => exact DT.as (dt_cmp (de_callB h rfl B.f_len boot_len (da_cons (de_at h .dic (de_var h 3 rfl rfl rfl) (de_var h 5 rfl rfl rfl) (sk_ok s) (sk_D s).symm (left_at hs)) da_nil) (wc_len .lst ⟨rfl, rfl⟩)) de_int (wo_gt ⟨rfl, rfl⟩)) (by rw [List.length_map]; exact decide_eq_decide.mpr (by omega))
            refine wss_fz 4 rfl ?_
            have gop : datB 60 (.lst ((r.filter fun s => decide (1 < (L s).length)).map sqD)) = true := by
              show ((r.filter fun s => decide (1 < (L s).length)).map sqD).all (datB 59) = true
              rw [List.all_eq_true]
              intro d hd
              obtain ⟨x, _, rfl⟩ := List.mem_map.mp hd
              exact datB_sq 58 x
            cases hop : r.filter fun s => decide (1 < (L s).length) with
            | nil =>
              rw [hop] at gop
              have one : ∀ s ∈ r, ∃ k, L s = [k] := fun s hs => by
                have h1 := hne s hs
                have h2 := List.filter_eq_nil_iff.mp hop s hs
                cases e : L s with
                | nil => exact absurd e h1
                | cons k t =>
                  rw [e] at h2
                  cases t with
                  | nil => exact ⟨k, rfl⟩
                  | cons _ _ => simp at h2
              have hF : ∀ s ∈ r, L s = [(L s).headD 0] := fun s hs => by
                obtain ⟨k, e⟩ := one s hs
                rw [e]; rfl
              have fl : IsFl r (letF l) fun s => (L s).headD 0 := by
                refine ⟨fun s hs => hlx.2.2 s hs _ (hrep.le s hs _ (by rw [hF s hs]; simp)), fun spot hsp => ?_⟩
                exact (hst spot hsp).congr fun s hs => hF s ((spots_in_room r spot hsp).2 s hs)
              refine wss_cons (ws_if (DT.to (d := true) (dt_cmp (de_var h 4 rfl rfl rfl) (do_lst da_nil).frz (wo_eqD h .id .id gop rfl ⟨by show D.bl (eqD (D.lst _) (D.lst [])) = _; rw [eqD_nil]; rfl, rfl⟩)) ⟨fun _ => wss_one (ws_ret (DE.to (d := flD r fun s => (L s).headD 0) (de_callTy h rfl B.f_tuple boot_tuple (da_cons (DO.frz (do_lcM h B r sqD (fun s => .int ((L s).headD 0)) [("square", 5)] (tg_name h 5 rfl rfl (by simp)) rfl ⟨wi_tupE (de_var h 0 rfl rfl rfl) rfl, by omega, fun s hs => ⟨_, rfl, fun X' ⟨h, B, _⟩ m => ?t2⟩⟩)) da_nil) (wc_tuple .lst ⟨rfl, rfl⟩)) ⟨_, M, (prow, .lst (row0.map letsD)) :: Gs, rfl, .id, q1 _ fl⟩)), fun c => (nomatch c)⟩))
              case t2 => exact de_ix (de_at h .dic (de_var h 3 rfl rfl rfl) (de_var h 5 rfl rfl rfl) (sk_ok s) (sk_D s).symm (left_at hs)) de_int .lst (by rw [hF s hs]; rfl)
            | cons s0 ops =>
              rw [hop] at gop
              have hs0 : s0 ∈ r.filter fun s => decide (1 < (L s).length) := by rw [hop]; exact List.mem_cons_self
              have hs0r := (List.mem_filter.mp hs0).1
              have hs0l : 1 < (L s0).length := of_decide_eq_true (List.mem_filter.mp hs0).2
              have h5 := (hnd s0 hs0r).2
              refine wss_cons (ws_if (DT.to (d := false) (dt_cmp (de_var h 4 rfl rfl rfl) (do_lst da_nil).frz (wo_eqD h .id .id gop rfl ⟨by show D.bl (eqD (D.lst _) (D.lst [])) = _; rw [eqD_nil]; rfl, rfl⟩)) ⟨fun c => (nomatch c), fun _ => wss_nil ?_⟩))
              have hks : (srt (L s0)).reverse.length ≤ 5 := by rw [List.length_reverse, (srt_perm _).length_eq]; exact h5
              refine wss_one (ws_forT h (srt (L s0)).reverse .int (fun i ρ' M' => ∃ o6 o7 Gs, ρ' = [some (roomD r), some (letsD l), some (.ref prow), some (.dic (leftK r L)), some (.lst ((s0 :: ops).map sqD)), none, o6, o7] ∧ M' = (prow, .lst ((row0 ++ ((srt (L s0)).reverse.take i).map (kidL r L s0)).map letsD)) :: (Gs ++ M))
                (fi_lst (ds := ((srt (L s0)).map D.int).reverse) (DO.frz (mo := .lst _) (wo_rev (DE.to (DO.frz (mo := .lst _) (do_callB h rfl B.f_sorted boot_sorted (da_cons (de_at h .dic (de_var h 3 rfl rfl rfl) (de_ix (de_var h 4 rfl rfl rfl) de_int .lst (atI_hd _ _)) (sk_ok s0) (sk_D s0).symm (left_at hs0r)) da_nil) (wc_srt h .lst))) ⟨_, .lst, fun p => ⟨p, rfl, rfl⟩⟩))) ?e) ⟨_, _, Gs, rfl, by simp⟩ ?_ ?_)
              case e => simp [List.map_reverse]
              · rintro i k ρ' M' hi ⟨o6, o7, Gs, rfl, rfl⟩
                have lrow := take_len (srt (L s0)).reverse i 5 hks
                refine wg_name h 6 rfl rfl ?_
                refine wss_cons (ws_lcM h B 7 r sqD (fun s => .tup [sqD s, intsT (if s = s0 then [k] else srt (L s))]) [("square", 5)] (tg_name h 5 rfl rfl (by simp)) rfl ⟨wi_tupE (de_var h 0 rfl rfl rfl) rfl, by omega, fun s hs => ⟨_, rfl, fun X' ⟨h, B, _⟩ m => ?t3⟩⟩ fun plt => ?_)
                case t3 =>
                  refine de_tup (da_cons (de_var h 5 rfl rfl rfl) (da_cons (DE.as (de_ifE (t := decide (s = s0)) (dt_cmp (de_var h 5 rfl rfl rfl) (de_ix (de_var h 4 rfl rfl rfl) de_int .lst (atI_hd _ _)) (wo_eqD h .id .id (datB_sq 59 s) (datB_sq 59 s0) ⟨by rw [eqD_sq], rfl⟩)) (fun _ => (de_tup (da_cons (de_var h 6 rfl rfl rfl) da_nil))) fun _ => de_callTy h rfl B.f_tuple boot_tuple (da_cons (DO.frz (do_callB h rfl B.f_sorted boot_sorted (da_cons (de_at h .dic (de_var h 3 rfl rfl rfl) (de_var h 5 rfl rfl rfl) (sk_ok s) (sk_D s).symm (left_at hs)) da_nil) (wc_srt h .lst))) da_nil) (wc_tuple .lst ⟨rfl, rfl⟩)) ?_) da_nil))
                  by_cases e : s = s0 <;> simp [e]
                refine wss_fz 7 rfl ?_
                refine wss_one (ws_append 0 (de_var h 2 rfl rfl rfl) (de_callTy h rfl B.f_tuple boot_tuple (da_cons (de_var h 7 rfl rfl rfl) da_nil) (wc_tupleN .lst ⟨rfl, rfl⟩)) rfl (by simp only [List.length_map, List.length_append]; omega) ⟨_, _, Gs, rfl, ?_⟩)
                rw [List.take_succ, hi]
                have e1 : D.tupN (r.map fun s => .tup [sqD s, intsT (if s = s0 then [k] else srt (L s))]) = letsD (kidL r L s0 k) := by
                  simp [letsD, prD, letsP, kidL, List.map_map, Function.comp_def, keyD, keyDs]
                rw [e1]
                simp
              · rintro ρ' M' ⟨o6, o7, Gs, rfl, rfl⟩
                rw [List.take_length]
                have hmem : ∀ k ∈ (srt (L s0)).reverse, k ∈ L s0 := fun k hk => (srt_perm _).mem_iff.mp (List.mem_reverse.mp hk)
                have hk1 := kids_me hs0r hs0l (cntL r (letF lx)) hcl (srt (L s0)).reverse hks
                refine ⟨meS r (row0 ++ (srt (L s0)).reverse.map (kidL r L s0)), by rw [hme, meS_app]; omega, _, _, _, _, Gs, _, rfl, rfl, ⟨fun x hx => ?_, fun F hF => ?_, fun i x hx => ?_⟩, rfl⟩
                · rcases List.mem_append.mp hx with hx | hx
                  · exact sr.ok x (List.mem_append_left _ hx)
                  · obtain ⟨k, hk, rfl⟩ := List.mem_map.mp hx
                    exact ⟨kid_ok hnd, by simp [kidL]; omega, (kid_le (hmem k hk)).trans (hrep.le.trans hlx.2.2)⟩
                · obtain ⟨y, hy, hF'⟩ := sr.all F hF
                  rcases List.mem_append.mp hy with hy | hy
                  · exact ⟨y, List.mem_append_left _ hy, hF'⟩
                  · rw [List.mem_singleton.mp hy] at hF'
                    obtain ⟨h1, h2⟩ := kid_fl (hF'.rep hrep) hs0r
                    exact ⟨_, List.mem_append_right _ (List.mem_map.mpr ⟨_, List.mem_reverse.mpr ((srt_perm _).mem_iff.mpr h1), rfl⟩), h2⟩
                · by_cases hlt : i < row0.length
                  · rw [List.getElem?_append_left hlt] at hx
                    exact sr.dep i x (by rw [List.getElem?_append_left hlt]; exact hx)
                  · rw [List.getElem?_append_right (by omega), List.getElem?_map] at hx
                    cases hk : (srt (L s0)).reverse[i - row0.length]? with
                    | none => rw [hk] at hx; cases hx
                    | some k =>
                      rw [hk] at hx
                      cases hx
                      have hb := (List.getElem?_eq_some_iff.mp hk).1
                      have hc := kid_cnt (k := k) hs0r hs0l
                      omega
      · have e : row = [] := by cases row <;> simp at c ⊢
        subst e
        refine wss_one (ws_ret (DE.to de_non ⟨.non, M, (prow, .lst []) :: Gs, rfl, .id, q2 fun F hF => ?_⟩))
        obtain ⟨y, hy, _⟩ := sr.all F hF
        cases hy
end DL

set_option maxHeartbeats 4000000
/-! DL: calls by keywords; defs that raise CanNot. -/
namespace DL
open PySem PySem.Spec PyProof.Rows L2 Evl

/-! ### keywords -/
@[irreducible] def wpK (X : Cx) (kws : List Keyword) : TA := fun σ H Q => ∀ pos pins s, Inv X pins σ H s → wpAny (model X.prog X.w) X.A (evalAll ((backToKw pos (keywordEach kws X.env)).map (·.2))) (AP X pins σ Q) X.xe s
theorem pk_wp {X : Cx} {kws : List Keyword} : PK X kws (wpK X kws) := ⟨fun pos pins s _ _ _ I h => by unfold wpK at h; exact h pos pins s I⟩
theorem wp_pk {X : Cx} {kws : List Keyword} {t : TA} (p : PK X kws t) {σ : L2.St} {H : Hp} {Q : List V → Hp → Prop} (h : t σ H Q) : wpK X kws σ H Q := by unfold wpK; exact fun pos pins s I => p.run pos pins s σ H Q I h
def WK (X : Cx) (kws : List Keyword) (ρ : EnvD) (M : MS) (Q : List D → MS → Prop) : Prop := ∀ σ H, At (gx X) ρ M σ H → ∀ Qv, LftA (gx X) M H Q Qv → wpK X kws σ H Qv
section
variable {X : Cx} {N : List Str} {sc : Scope} {k : Nat} {b : Bool} {ρ : EnvD} {M M1 M2 M' : MS} {pos : Pos} {Q : D → MS → Prop} {E : DEnds}
theorem wk_nil {Q : List D → MS → Prop} (q : Q [] M) : WK X [] ρ M Q := fun σ H a Qv l => wp_pk pk_nil (l [] [] M H q a.m Fx.refl .nil)
theorem wk_cons {e : Expr} {nm : Option Str} {kpos : Pos} {kws : List Keyword} {Q : List D → MS → Prop} (h : WE X e ρ M fun d M1 => WK X kws ρ M1 fun ds M2 => Q (d :: ds) M2) : WK X (⟨nm, e, kpos⟩ :: kws) ρ M Q := fun σ H a Qv l => by
  refine wp_pk (pk_cons (nm := nm) (kpos := kpos) pe_wp pk_wp) (h σ H a _ fun v d M1 H1 q m f r => ?_)
  exact q σ H1 (a.step m f) _ fun vs ds M2 H2 q2 m2 f2 r2 => l (v :: vs) (d :: ds) M2 H2 q2 m2 (Ex.trans f f2) (.cons (r.mono f2) r2)
/-- a def that is called by keywords ks, too: g puts their values in the parameters' order -/
def Dk (X : Cx) (x : Str) (k : Nat) (ps ks : List Str) (g : {α : Type} → List α → List α) (s : SpD) : Prop :=
  ∃ f fd, FnOk X.prog X.w X.K X.mg X.base CX0 k f fd ps (spD (gx X) s) ∧ X.mg x = some (.ref f) ∧ PySem.W.keepIn X.K (.ref f) = true ∧ Binds X.K fd ps [] ∧ KBn X.K fd ps 0 ks (fun _ ws => g ws) (fun _ zs => g zs)
theorem Dk.dn {x : Str} {ps ks : List Str} {g : {α : Type} → List α → List α} {s : SpD} (h : Dk X x k ps ks g s) : Dn X x k ps s := let ⟨f, fd, h1, h2, h3, h4, _⟩ := h; ⟨f, fd, h1, h2, h3, h4⟩
theorem kbn_of {x qual : Str} {params : Arguments} {body : List Stmt} {scope : Scope} {f : Addr} {fd : FuncData} {ps ks : List Str} {g : {α : Type} → List α → List α} (F : FunD X.K x qual params body scope [] [] f fd)
    (hv : ∀ {vs : List V} {us : List Value}, Vals vs us → Vals (g vs) (g us))
    (hk : ∀ (kV doc pm : Value) (an : Option Addr) (cdv ct : Value) (ws : List Value), ws.length = ks.length → bindArgs (PySem.W.fnOf x qual params body scope .none kV doc pm an cdv ct) ⟨[], ks.zip ws⟩ = pure (ps.zip (g ws))) : KBn X.K fd ps 0 ks (fun _ ws => g ws) (fun _ zs => g zs) := by
  obtain ⟨oc, od, dV, kV, doc, pm, an, cdv, ct, osl, rfl, lk, hcd, hD, hK⟩ := F.ex
  rcases hD with ⟨_, rfl⟩ | ⟨e, _⟩
  · refine ⟨fun s us ws I l1 l2 => ?_, fun _ r2 => hv r2⟩
    have e : us = [] := List.length_eq_zero_iff.mp l1
    subst e
    exact .of_eq (hk kV doc pm an cdv ct ws l2)
  · exact absurd rfl e
/-- f(k = v, ..) -/
theorem we_callK (h : XOk X N sc k b) {x : Str} {j : Nat} {ps ks : List Str} {g : {α : Type} → List α → List α} {s : SpD} {p : Pos} {kws : List Keyword} (F : Dk X x j ps ks g s) (hg : glB sc x = true) (hgD : ∀ {G : GX} {H : Hp} {vs : List V} {ds : List D}, RpA G H vs ds → RpA G H (g vs) (g ds))
    (ha : WK X kws ρ M fun ds M1 => ds.length = ks.length ∧ s (g ds) M1 Q) (hk : j ≤ k := by decide)
    (hall : (backToKw pos (keywordEach kws X.env)).all (·.1.isSome) = true := by rfl) (hks : (backToKw pos (keywordEach kws X.env)).filterMap (·.1) = ks := by rfl)
    (hd : (x == ("__debug__" : Str)) = false := by decide +kernel) (hpl : ((backTo pos (starEach [] X.env)).any (·.1) || (backToKw pos (keywordEach kws X.env)).any (·.1.isNone)) = false := by rfl) : WE X (.Call (.Name x p) [] kws pos) ρ M Q := fun σ H a Qv l => by
  unfold wpE
  intro pins sh I
  obtain ⟨f, fd, ok, hm, hkp, hb, hkb⟩ := F
  refine wpAny_Call_Name_kw (ld_glob I (h.gl hg) hm ?_ hd)
  refine PySem.W.callWith_KW0 (h₀ := X.base) I.ok.mod.kin hkp hall (thn (pk_wp.run pos pins sh σ H (fun zs H2 => zs.length = ks.length ∧ spD (gx X) s (g zs) H2 Qv fun _ _ _ => False) I (ha σ H a _ fun vs ds M1 H1 ⟨hl, q⟩ m f1 r => ⟨by rw [r.len]; exact hl, g ds, M1, Q, hgD r, m, q, l.go f1⟩)) fun ws s2 ⟨zs, H2, I2, rz, hl, q2⟩ => ⟨I2.kIn, ?_⟩) hpl
  rw [hks]
  exact run_fnN (us := []) (vs := []) ok (h.room.mono hk) hkb pass0 I2 .nil rz rfl hl q2
end
end DL

set_option maxHeartbeats 4000000
/-! DL: items of displays by their form (the general rule's side goal takes long on nested displays). -/
namespace DL
open PySem PySem.Spec PyProof.Rows L2 Evl
section
variable {X : Cx} {ρ : EnvD} {M M1 M2 : MS} {es as : List Expr} {d : D} {ds : List D} {pos : Pos}
theorem da_cT {k} (h1 : DE X (.Tuple as k pos) ρ M d M1) (h2 : DA X es ρ M1 ds M2) : DA X (.Tuple as k pos :: es) ρ M (d :: ds) M2 := da_cons h1 h2
theorem da_cL (h1 : DE X (.List as pos) ρ M d M1) (h2 : DA X es ρ M1 ds M2) : DA X (.List as pos :: es) ρ M (d :: ds) M2 := da_cons h1 h2
theorem da_cC {c k} (h1 : DE X (.Constant c k pos) ρ M d M1) (h2 : DA X es ρ M1 ds M2) : DA X (.Constant c k pos :: es) ρ M (d :: ds) M2 := da_cons h1 h2
theorem da_cN {x} (h1 : DE X (.Name x pos) ρ M d M1) (h2 : DA X es ρ M1 ds M2) : DA X (.Name x pos :: es) ρ M (d :: ds) M2 := da_cons h1 h2
theorem da_cB {a o c} (h1 : DE X (.BinOp a o c pos) ρ M d M1) (h2 : DA X es ρ M1 ds M2) : DA X (.BinOp a o c pos :: es) ρ M (d :: ds) M2 := da_cons h1 h2
theorem da_cU {o c} (h1 : DE X (.UnaryOp o c pos) ρ M d M1) (h2 : DA X es ρ M1 ds M2) : DA X (.UnaryOp o c pos :: es) ρ M (d :: ds) M2 := da_cons h1 h2
theorem da_cS {a c} (h1 : DE X (.Subscript a c pos) ρ M d M1) (h2 : DA X es ρ M1 ds M2) : DA X (.Subscript a c pos :: es) ρ M (d :: ds) M2 := da_cons h1 h2
theorem da_cK {f a w} (h1 : DE X (.Call f a w pos) ρ M d M1) (h2 : DA X es ρ M1 ds M2) : DA X (.Call f a w pos :: es) ρ M (d :: ds) M2 := da_cons h1 h2
end
end DL

set_option maxHeartbeats 4000000
/-! DL: defs that raise CanNot. -/
namespace DL
open PySem PySem.Spec PyProof.Rows L2 Evl

section
variable {X : Cx} {pos : Pos}
/-- X(), X an own exception class without own __init__ -/
theorem pmk_own0 {C : Addr} {bmB : List Value} {B newId initId : String} {x : Str} {p : Pos} (F : ExcBaseFacts B newId initId bmB) (q : PySem.W.excIn X.K C bmB newId = true) (gC : X.mg x = some (.ref C))
    (kC : PySem.W.keepIn X.K (.ref C) = true) (r : Raises X (.ref C)) (hg : Gl X x) (hdb : (x == ("__debug__" : Str)) = false := by decide +kernel) : PMk X (.Call (.Name x p) [] [] pos) (fun _ H Q => Q (.ref C) none H) := by
  intro pins s σ H Q I h
  refine wpAny_Call_Name_kw (ld_glob I hg gC ?_ hdb)
  refine PySem.W.callWith_K0 (first := []) I.kIn kC ?_
  obtain ⟨bm, N, nm, qn, bs, hdct, sn, sub, ab, col, dd, k0, k1, k2, k3, k5, mN, hC, hN, hni, T⟩ := exc_obj I.kIn q
  exact wpAny_call_exc_subT F T hC hN hni (fun h' e hm => mk_of I hm r h (I.hok.gone hm.new)) (Nat.zero_le _)
theorem PS.nox {st : Stmt} {t : TS} (h : PS X.nox st t) : PS X st t := ⟨fun pins s σ H D I hw =>
  wpAny_mono (h.run pins s σ H D (I.wish _) hw) (fun _ _ q => q.unwish) fun _ _ z => False.elim z⟩
/-- the address of CanNot -/
abbrev cnA (X : Cx) : Addr := He.ga X.K "CanNot"
structure Cn (X : Cx) : Prop where
  ex : PySem.W.excIn X.K (cnA X) He.veBase "ValueError.__new__" = true
  kp : PySem.W.keepIn X.K (.ref (cnA X)) = true
  rs : Raises X (.ref (cnA X))
  mg : X.mg "CanNot" = some (.ref (cnA X))
  nm : PySem.W.exmOne X.K (.ref (cnA X)) (.ref (cnA X)) = some true
theorem Bs.cn (B : Bs X) : Cn X := by
  obtain ⟨h1, h2, h3, h4⟩ := He.exc_ok (B.c.fact 76 rfl : (He.Fa.exc "CanNot").ok X.K = true)
  refine ⟨h1, h2, raises_own h3 h4, ?_, He.exm_ok (B.c.fact 77 rfl : (He.Fa.exm "CanNot" "CanNot" true).ok X.K = true)⟩
  obtain ⟨h, I, G⟩ := B.h
  exact He.glo_ok I G (B.c.fact 75 rfl)
end
def LftX (G : GX) (M : MS) (H : Hp) (QE : MS → Prop) (W : Hp → Prop) : Prop := ∀ M' H', QE M' → MSt G M' H' → Fx M H M' H' → W H'
theorem LftX.go {G : GX} {M M1 : MS} {H H1 : Hp} {QE : MS → Prop} {W : Hp → Prop} (l : LftX G M H QE W) (f : Fx M H M1 H1) : LftX G M1 H1 QE W := fun M' H' q m f' => l M' H' q m (Ex.trans f f')
/-- rows that may raise CanNot, leaving QE -/
def WSsX (X : Cx) (st : List Stmt) (ρ : EnvD) (M : MS) (E : DEnds) (QE : MS → Prop) : Prop :=
  ∀ σ H, At (gx X) ρ M σ H → ∀ D W, Lk (gx X) M H E D → LftX (gx X) M H QE W → Takes X (fun cls d _ H' => cls = .ref (cnA X) ∧ d = none ∧ W H') → wpSs X st D σ H
section
variable {X : Cx} {ρ : EnvD} {M : MS} {E : DEnds} {QE : MS → Prop} {pos : Pos}
theorem wssX_tail {st : List Stmt} (h : WSs X.nox st ρ M E) : WSsX X st ρ M E QE := fun σ H a D W l _ _ => wp_pss (PSs.nox pss_wp) (h σ H a D l)
theorem wssX_cons {st : Stmt} {rest : List Stmt} (h : WS X.nox st ρ M { E with nx := fun ρ' M' => WSsX X rest ρ' M' E QE }) : WSsX X (st :: rest) ρ M E QE := fun σ H a D W l lm tk =>
  wp_pss (pss_cons (PS.nox ps_wp) pss_wp) (h σ H a { D with nx := wpSs X rest D } ⟨fun ρ' M' σ' H' q a' f => q σ' H' a' D W (l.go f) (lm.go f) tk, l.rt, l.bk, l.ct⟩)
theorem wssX_if {c : Expr} {rest : List Stmt} {p p2 p3 : Pos} (hc : X.calm = true) (cn : Cn X) (hg : Gl X "CanNot") (h : WT X.nox c ρ M fun t M' => (t = true → QE M') ∧ (t = false → WSsX X rest ρ M' E QE)) :
    WSsX X (.If c [.Raise (some (.Call (.Name "CanNot" p) [] [] p2)) none p3] [] pos :: rest) ρ M E QE := fun σ H a D W l lm tk => by
  refine wp_pss (pss_cons (ps_if (PT.nox pt_wp) (pss_one (ps_raise hc tk (pmk_own0 PySem.F.excBase_ValueError cn.ex cn.mg cn.kp cn.rs hg))) pss_nil) pss_wp) ?_
  refine h σ H a _ fun t M' H' ⟨h1, h2⟩ m f => ?_
  cases t with
  | true => exact ⟨rfl, rfl, lm M' H' (h1 rfl) m f⟩
  | false => exact h2 rfl σ H' (a.step m f) D W (l.go f) (lm.go f) tk
end
abbrev SpX := List D → MS → (D → MS → Prop) → (MS → Prop) → Prop
def spX (X : Cx) (s : SpX) : Sp := fun vs H Q E => ∃ ds M QD QE, RpA (gx X) (hid (adr M) H) vs ds ∧ MSt (gx X) M H ∧ s ds M QD QE ∧ Lft (gx X) M H QD Q ∧ LftX (gx X) M H QE fun H' => E (.ref (cnA X)) none H'
def DnX (X : Cx) (x : Str) (k : Nat) (ps ks : List Str) (g : {α : Type} → List α → List α) (s : SpX) : Prop :=
  ∃ f fd, FnOk X.prog X.w X.K X.mg X.base (CX X.prog X.w) k f fd ps (spX X s) ∧ X.mg x = some (.ref f) ∧ PySem.W.keepIn X.K (.ref f) = true ∧ KBn X.K fd ps 0 ks (fun _ ws => g ws) (fun _ zs => g zs)
theorem def_byX {X : Cx} (B : Bs X) {x : Str} (j i g : Nat) {N ps ks : List Str} {k : Nat} {s : SpX} {gk : {α : Type} → List α → List α} (hf : TH.fn[i]? = some (TH.dD x j)) (hg : TH.fa[g]? = some (.glo x)) (S : FnScope N ps (defScope (TH.top j)))
    (hv : ∀ {vs : List V} {us : List Value}, Vals vs us → Vals (gk vs) (gk us))
    (hk : ∀ (kV doc pm : Value) (an : Option Addr) (cdv ct : Value) (ws : List Value), ws.length = ks.length → bindArgs (PySem.W.fnOf x x (defArgs (TH.top j)) (defBody (TH.top j)) (defScope (TH.top j)) .none kV doc pm an cdv ct) ⟨[], ks.zip ws⟩ = pure (ps.zip (gk ws)))
    (len : ∀ ds M Q QE, s ds M Q QE → ds.length = ps.length)
    (hbody : ∀ X' : Cx, XOk X'.nox N (defScope (TH.top j)) k true → Bs X' → X'.calm = true → ∀ ds M QD QE, s ds M QD QE → WSsX X' (defBody (TH.top j)) (startD N ds) M { nx := fun _ M' => Rtn QD .non M', rt := Rtn QD } fun M' => ∃ Gs M2, M' = Gs ++ M2 ∧ QE M2) : DnX X x (k + 1) ps ks gk s := by
  obtain ⟨fd, F⟩ := B.c.def_ i hf
  have F' : FunD X.K x x (defArgs (TH.top j)) (defBody (TH.top j)) (defScope (TH.top j)) [] [] (He.ga X.K x) fd := F
  have hm : X.mg x = some (.ref (He.ga X.K x)) := by
    obtain ⟨h, I, G⟩ := B.h
    exact He.glo_ok I G (B.c.fact g hg)
  refine ⟨_, fd, F'.ok S (fun vs H Q E h => ?_) (fun cdv A outer s0 H vs Q E hr h => ?_), hm, F'.kp, kbn_of F' hv hk⟩
  · obtain ⟨ds, M, QD, QE, r, _, q, _⟩ := h
    rw [r.len]
    exact len _ _ _ _ q
  · obtain ⟨ds, M, QD, QE, r, m, q, l, lm⟩ := h
    refine ⟨_, pss_wp, ?_⟩
    have tk : Takes (cxOf (CX X.prog X.w) X.prog X.w X.K X.mg X.base N x (defScope (TH.top j)) (He.ga X.K x) cdv A outer s0 H E) (fun cls d _ H' => E cls d H') := takes_of rfl rfl rfl rfl
    generalize hX : cxOf (CX X.prog X.w) X.prog X.w X.K X.mg X.base N x (defScope (TH.top j)) (He.ga X.K x) cdv A outer s0 H E = X' at tk
    have e1 : X'.prog = X.prog := by rw [← hX]; rfl
    have e2 : X'.w = X.w := by rw [← hX]; rfl
    have e3 : X'.K = X.K := by rw [← hX]; rfl
    have e4 : X'.mg = X.mg := by rw [← hX]; rfl
    have e5 : X'.base = X.base := by rw [← hX]; rfl
    have ok : XOk X'.nox N (defScope (TH.top j)) k true := by
      rw [← hX]
      exact ⟨rfl, S.nd, S.kind, rfl, hr, fun _ _ => rfl, PassesOwn.never, rfl⟩
    have eg : gx X' = gx X := by show (⟨X'.prog, X'.w, X'.K⟩ : GX) = _; rw [e1, e2, e3]
    have ec : cnA X' = cnA X := by show He.ga X'.K _ = He.ga X.K _; rw [e3]
    refine hbody X' ok (B.same e3 e4) (by rw [← hX]; rfl) ds M QD QE q (L2.start N vs) H (by rw [eg]; exact at_start m r) { nx := fun _ H' => Q .non H', rt := Q } (fun H' => E (.ref (cnA X)) none H') ?_ ?_ (tk.imp fun c d σ H' ⟨a1, a2, w⟩ => by subst a1 a2; rw [ec]; exact w)
    · rw [eg]
      have fin : ∀ v d M' H', Rtn QD d M' → MSt (gx X) M' H' → Fx M H M' H' → Rp (gx X) (hid (adr M') H') v d → Q v H' := fun v d M' H' ⟨d', M2, Gs, e, fz, qd⟩ m' f' r' => by
        subst e
        exact l v d' M2 H' qd m'.drops (Ex.trans f' hid_app) (fz.rp m' r')
      exact ⟨fun ρ' M' σ' H' q' a' f' => fin .non .non M' H' q' a'.m f' .non, fin, fun _ _ _ _ z => z.elim, fun _ _ _ _ z => z.elim⟩
    · rw [eg]
      rintro M' H' ⟨Gs, M2, rfl, qe⟩ m' f'
      exact lm M2 H' qe m'.drops (Ex.trans f' hid_app)
end DL

set_option maxHeartbeats 4000000
/-! DL: a def that is called by keywords, too. -/
namespace DL
open PySem PySem.Spec PyProof.Rows L2 Evl

/-- the promise itself -/
theorem fn_okD {X : Cx} {PT : Cx → Prop} {x : Str} {params : Arguments} {body : List Stmt} {scope : Scope} {f : Addr} {fd : FuncData} {N ps : List Str} {k : Nat} {s : SpD} (F : FunD X.K x x params body scope [] [] f fd) (S : FnScope N ps scope) 
    (hT : ∀ X' : Cx, X'.prog = X.prog → X'.w = X.w → X'.K = X.K → X'.mg = X.mg → X'.base = X.base → PT X')
    (len : ∀ ds M Q, s ds M Q → ds.length = ps.length)
    (hbody : ∀ X' : Cx, XOk X' N scope k true → PT X' → ∀ ds M QD, s ds M QD → WSs X' body (startD N ds) M { nx := fun _ M' => Rtn QD .non M', rt := Rtn QD }) : FnOk X.prog X.w X.K X.mg X.base CX0 (k + 1) f fd ps (spD (gx X) s) := by
  refine F.ok S (fun vs H Q E h => ?_) (fun cdv A outer s0 H vs Q E hr h => ?_)
  · obtain ⟨ds, M, QD, r, _, q, _⟩ := h
    rw [r.len]
    exact len _ _ _ q
  · obtain ⟨ds, M, QD, r, m, q, l⟩ := h
    refine ⟨_, PSs.nox pss_wp, ?_⟩
    generalize hX : (cxOf CX0 X.prog X.w X.K X.mg X.base N x scope f cdv A outer s0 H E).nox = X'
    have e1 : X'.prog = X.prog := by rw [← hX]; rfl
    have e2 : X'.w = X.w := by rw [← hX]; rfl
    have e3 : X'.K = X.K := by rw [← hX]; rfl
    have e4 : X'.mg = X.mg := by rw [← hX]; rfl
    have e5 : X'.base = X.base := by rw [← hX]; rfl
    have ok : XOk X' N scope k true := by
      rw [← hX]
      exact ⟨rfl, S.nd, S.kind, rfl, hr, fun _ _ => rfl, PassesOwn.never, rfl⟩
    have eg : gx X' = gx X := by show (⟨X'.prog, X'.w, X'.K⟩ : GX) = _; rw [e1, e2, e3]
    have hw := hbody X' ok (hT X' e1 e2 e3 e4 e5) ds M QD q (L2.start N vs) H (by rw [eg]; exact at_start m r) { nx := fun _ H' => Q .non H', rt := Q } ?_
    · exact hw
    · rw [eg]
      have fin : ∀ v d M' H', Rtn QD d M' → MSt (gx X) M' H' → Fx M H M' H' → Rp (gx X) (hid (adr M') H') v d → Q v H' := fun v d M' H' ⟨d', M2, Gs, e, fz, qd⟩ m' f' r' => by
        subst e
        exact l v d' M2 H' qd m'.drops (Ex.trans f' hid_app) (fz.rp m' r')
      exact ⟨fun ρ' M' σ' H' q' a' f' => fin .non .non M' H' q' a'.m f' .non, fin, fun _ _ _ _ z => z.elim, fun _ _ _ _ z => z.elim⟩
theorem def_byK {X : Cx} (B : Bs X) {x : Str} (j i g : Nat) {N ps ks : List Str} {k : Nat} {s : SpD} {gk : {α : Type} → List α → List α} (hf : TH.fn[i]? = some (TH.dD x j)) (hg : TH.fa[g]? = some (.glo x)) (S : FnScope N ps (defScope (TH.top j)))
    (hb : ∀ (kV doc pm : Value) (an : Option Addr) (cdv ct : Value) (us : List Value), us.length = ps.length → bindArgs (PySem.W.fnOf x x (defArgs (TH.top j)) (defBody (TH.top j)) (defScope (TH.top j)) .none kV doc pm an cdv ct) ⟨us, []⟩ = pure (ps.zip us))
    (hv : ∀ {vs : List V} {us : List Value}, Vals vs us → Vals (gk vs) (gk us))
    (hk : ∀ (kV doc pm : Value) (an : Option Addr) (cdv ct : Value) (ws : List Value), ws.length = ks.length → bindArgs (PySem.W.fnOf x x (defArgs (TH.top j)) (defBody (TH.top j)) (defScope (TH.top j)) .none kV doc pm an cdv ct) ⟨[], ks.zip ws⟩ = pure (ps.zip (gk ws)))
    (len : ∀ ds M Q, s ds M Q → ds.length = ps.length)
    (hbody : ∀ X' : Cx, XOk X' N (defScope (TH.top j)) k true → Bs X' → ∀ ds M QD, s ds M QD → WSs X' (defBody (TH.top j)) (startD N ds) M { nx := fun _ M' => Rtn QD .non M', rt := Rtn QD }) : Dk X x (k + 1) ps ks gk s := by
  obtain ⟨fd, F⟩ := B.c.def_ i hf
  have F' : FunD X.K x x (defArgs (TH.top j)) (defBody (TH.top j)) (defScope (TH.top j)) [] [] (He.ga X.K x) fd := F
  have hm : X.mg x = some (.ref (He.ga X.K x)) := by
    obtain ⟨h, I, G⟩ := B.h
    exact He.glo_ok I G (B.c.fact g hg)
  exact ⟨_, fd, fn_okD F' S B.toT len hbody, hm, F'.kp, F'.bindsN hb, kbn_of F' hv hk⟩
def swp {α : Type} : List α → List α
  | [a, b] => [b, a]
  | l => l
theorem swp_vals {vs : List V} {us : List Value} (h : Vals vs us) : Vals (swp vs) (swp us) := by
  cases h with
  | nil => exact .nil
  | cons a h =>
    cases h with
    | nil => exact .cons a .nil
    | cons c h =>
      cases h with
      | nil => exact .cons c (.cons a .nil)
      | cons e h => exact .cons a (.cons c (.cons e h))
theorem swp_rp {G : GX} {H : Hp} {vs : List V} {ds : List D} (h : RpA G H vs ds) : RpA G H (swp vs) (swp ds) := by
  cases h with
  | nil => exact .nil
  | cons a h =>
    cases h with
    | nil => exact .cons a .nil
    | cons c h =>
      cases h with
      | nil => exact .cons c (.cons a .nil)
      | cons e h => exact .cons a (.cons c (.cons e h))
end DL

set_option maxHeartbeats 8000000
/-! walks: is_border; the law's squares. -/
namespace DL
open PySem PySem.Spec PyProof.Rows L2 Evl

local macro_rules
  | `(tactic| walk_at "op") => `(tactic| first
    | exact wo_add ⟨rfl, rfl⟩ | exact wo_sub ⟨rfl, rfl⟩ | exact wo_lt ⟨rfl, rfl⟩ | exact wo_le ⟨rfl, rfl⟩ | exact wo_gt ⟨rfl, rfl⟩ | exact wo_ge ⟨rfl, rfl⟩
    | exact wo_eqi ⟨rfl, rfl⟩ | exact wo_nei ⟨rfl, rfl⟩ | exact wo_eqb ⟨rfl, rfl⟩ | exact wo_neb ⟨rfl, rfl⟩ | exact wo_isN ⟨rfl, rfl⟩ | exact wo_notN ⟨rfl, rfl⟩)
  | `(tactic| walk_at "sq") => `(tactic| first | exact Sq.tup | exact Sq.lst | exact Sq.tupN | exact Sq.ref _ rfl)
  | `(tactic| walk_at "at") => `(tactic| first | rfl | assumption)
  | `(tactic| walk_at "isi") => `(tactic| first | exact wc_isI (by assumption) ⟨rfl, rfl⟩ | exact wc_isB (by assumption) ⟨rfl, rfl⟩ | exact wc_isT (by assumption) ⟨rfl, rfl⟩ | exact wc_isL (by assumption) ⟨rfl, rfl⟩ | exact wc_isLT (by assumption) ⟨rfl, rfl⟩ | exact wc_isBS (by assumption) ⟨rfl, rfl⟩)
  | `(tactic| walk_at "len") => `(tactic| exact wc_len (by first | exact Sq.tup | exact Sq.lst | exact Sq.tupN | exact Sq.ref _ rfl) ⟨rfl, rfl⟩)
  | `(tactic| walk_at "tuple") => `(tactic| exact wc_tuple (by first | exact Sq.lst | exact Sq.tup | exact Sq.tupN | exact Sq.ref _ rfl) ⟨rfl, rfl⟩)
  | `(tactic| walk_at "all") => `(tactic| exact wc_all (by assumption) (by first | exact SqO.lst | exact SqO.ref _ rfl) ⟨rfl, rfl⟩)

local macro_rules
  | `(tactic| walk_at "is_number") => `(tactic| exact ⟨_, rfl, by assumption, rfl, rfl⟩)
  | `(tactic| walk_at "tupled") => `(tactic| exact ⟨_, rfl, by assumption, rfl, rfl⟩)

theorem okD_tup {n : Nat} {xs : List D} (h : okD (n + 1) (.tup xs) = true) : (∀ x ∈ xs, okD n x = true) ∧ xs.length ≤ 1000 := by
  simpa only [okD, Bool.and_eq_true, List.all_eq_true, decide_eq_true_eq] using h
theorem inD_inv {x : D} (h : (isNumD x && inD 0 4 x) = true) : ∃ i ∈ kindsL, x = .int i := by
  cases x with
  | int i =>
    simp [isNumD, isIntD, isBlD, inD] at h
    refine ⟨i, ?_, rfl⟩
    have : i = 0 ∨ i = 1 ∨ i = 2 ∨ i = 3 ∨ i = 4 := by omega
    rcases this with rfl | rfl | rfl | rfl | rfl <;> simp [kindsL]
  | _ => simp [isNumD, isIntD, isBlD, inD] at h
theorem kinds_inv : ∀ {xs : List D}, (xs.all fun x => isNumD x && inD 0 4 x) = true → ∃ bs : List Int, xs = bs.map .int ∧ ∀ k ∈ bs, k ∈ kindsL
  | [], _ => ⟨[], rfl, fun k hk => by cases hk⟩
  | x :: xs, h => by
    rw [List.all_cons, Bool.and_eq_true] at h
    obtain ⟨i, hi, rfl⟩ := inD_inv h.1
    obtain ⟨bs, rfl, hb⟩ := kinds_inv h.2
    exact ⟨i :: bs, rfl, fun k hk => by
      rcases List.mem_cons.mp hk with rfl | hk
      · exact hi
      · exact hb k hk⟩
theorem kindsD_inv {r : List Pt} {d : D} (h : kindsD (rimL r).length d = true) (ho : okD 2 d = true) : ∃ bs : List Int, d = intsT bs ∧ GoodB r bs := by
  unfold kindsD at h
  rw [Bool.and_eq_true, Bool.and_eq_true] at h
  obtain ⟨⟨h1, h2⟩, h3⟩ := h
  cases d with
  | tup xs =>
    obtain ⟨bs, rfl, hb⟩ := kinds_inv h3
    refine ⟨bs, rfl, ?_, hb⟩
    have h4 := of_decide_eq_true h2
    simp only [lenD, List.length_map] at h4
    omega
  | tupN xs => simp [okD] at ho
  | _ => simp [isTupD] at h1
theorem Rm.nd {r : List Pt} (h : Rm r) : r.Nodup := h.asc.imp fun {a b} q e => by
  subst e
  rcases q with q | ⟨_, q⟩ <;> omega
theorem letsB_ok (r : List Pt) (bs : List Int) : LetOk (letsB r bs) := fun x hx => by
  obtain ⟨y, _, rfl⟩ := List.mem_map.mp hx
  exact ⟨by simp, by simp⟩
theorem letsB_len {r : List Pt} {bs : List Int} : (letsB r bs).length ≤ r.length := by
  have := rimL_len r
  unfold letsB
  rw [List.length_map, List.length_zip]
  omega
/-- a border of some floor -/
def HasB (r : List Pt) (e : D) : Prop := ∃ bs, e = intsT bs ∧ GoodB r bs ∧ ∃ F, IsFl r (letF (letsB r bs)) F
theorem ints_inj : ∀ {a b : List Int}, a.map D.int = b.map D.int → a = b
  | [], [], _ => rfl
  | [], _ :: _, h => by cases h
  | _ :: _, [], h => by cases h
  | x :: a, y :: b, h => by
    rw [List.map_cons, List.map_cons] at h
    injection h with h1 h2
    injection h1 with h1
    rw [h1, ints_inj h2]
theorem intsT_inj {a b : List Int} (h : intsT a = intsT b) : a = b := by
  have h2 : a.map D.int = b.map D.int := by injection h
  exact ints_inj h2
def s_is_border : SpD := fun ds M Q => ∃ (d e : D) (r : List Pt), ds = [d, e] ∧ okD 2 d = true ∧ tupD d = roomD r ∧ Rm r ∧ okD 2 e = true ∧ ∀ b, (b = true ↔ HasB r e) → Q (.bl b) M
theorem okK_is_border {X : Cx} (B : Bs X) : Dk X "is_border" 8 ["room", "thing"] ["thing", "room"] swp s_is_border := by
  refine def_byK B 51 37 37 (k := 7) (N := ["room", "thing", "own"]) rfl rfl ⟨rfl, rfl, rfl, by decide +kernel, rfl, by decide +kernel, by decide +kernel⟩ (fun _ _ _ _ _ _ us hl => match us, hl with | [_, _], _ => rfl) swp_vals (fun _ _ _ _ _ _ ws hl => match ws, hl with | [_, _], _ => rfl) ?len ?body
  case len => rintro _ _ _ ⟨_, _, _, rfl, _⟩; rfl
  case body =>
    rintro X' h B _ M QD ⟨d, e, r, rfl, ho, ht, hr, ho2, q⟩
    have hl := hr.len
    refine wss_cons (ws_set h 2 rfl rfl (DE.to (de_call h (ok_sure_room B) rfl (da_cN (de_var h 0 rfl rfl rfl) da_nil) ⟨d, r, rfl, ho, ht, hr, rfl, rfl⟩) ?_))
    refine wss_one (ws_ret (we_and (DE.to (de_call h (ok_is_row_of B) rfl (da_cN (de_var h 2 rfl rfl rfl) (da_cN (de_var h 1 rfl rfl rfl) da_nil)) ⟨r, e, rfl, by omega, ho2, rfl, rfl⟩) ⟨_, rfl, fun c => ?_, fun c => ?_⟩)))
    · obtain ⟨bs, rfl, hb⟩ := kindsD_inv c ho2
      have ll := letsB_len (r := r) (bs := bs)
      refine we_one (we_cmp (we_call h (ok_floor_for B) rfl (DA.to (da_cons (de_var h 2 rfl rfl rfl) (da_cons (de_call h (ok_lets_for B) rfl (da_cN (de_var h 2 rfl rfl rfl) (da_cN (de_var h 1 rfl rfl rfl) da_nil)) ⟨r, bs, rfl, by omega, rfl, rfl⟩) da_nil)) ⟨r, letsB r bs, rfl, hr.nd, hl, letsB_ok r bs, by omega, fun F hF => ?_, fun hF => ?_⟩)))
      · exact DE.to de_non (wo_notN (.now (q true ⟨fun _ => ⟨bs, rfl, hb, F, hF⟩, fun _ => rfl⟩)))
      · refine DE.to de_non (wo_notN (.now (q false ⟨fun z => (nomatch z), fun ⟨bs', e, _, F, hF'⟩ => ?_⟩)))
        rw [← intsT_inj e] at hF'
        exact absurd hF' (hF F)
    · refine .now (q false ⟨fun z => (nomatch z), fun ⟨bs, e, hb, _⟩ => ?_⟩)
      subst e
      rw [kindsD_good hb] at c
      cases c

theorem ok_is_border {X : Cx} (B : Bs X) : Dn X "is_border" 8 ["room", "thing"] s_is_border := (okK_is_border B).dn
/-! ### the law's squares -/
def s_law_over : SpD := fun ds M Q => ∃ (p : Pt) (k : Int), ds = [sqD p, .int k] ∧ k ∈ kindsL ∧ Q (sqD (led p k)) M
theorem ok__law_over {X : Cx} (B : Bs X) : Dn X "_law_over" 1 ["_law_spot", "_law_kind_so"] s_law_over := by
  refine def_by B 60 45 45 (k := 0) (N := ["_law_spot", "_law_kind_so", "_law_step_so"]) rfl rfl ⟨rfl, rfl, rfl, by decide +kernel, rfl, by decide +kernel, by decide +kernel⟩ (fun _ _ _ _ _ _ us hl => match us, hl with | [_, _], _ => rfl) ?len ?body
  case len => rintro _ _ _ ⟨_, _, rfl, _⟩; rfl
  case body =>
    rintro X' h B _ M QD ⟨p, k, rfl, hk, q⟩
    obtain ⟨f, hf, e⟩ := far_at hk
    rw [e] at q
    refine wss_cons (ws_set h 2 rfl rfl (DE.to (d := sqD f) (de_ix (DE.as (d' := .lst (farL.map sqD)) (do_lst (da_cT (de_tup (da_cC de_int (da_cC de_int da_nil))) (da_cT (de_tup (da_cC de_int (da_cC de_int da_nil))) (da_cT (de_tup (da_cC de_int (da_cC de_int da_nil))) (da_cT (de_tup (da_cU (de_neg de_int) (da_cC de_int da_nil))) (da_cT (de_tup (da_cC de_int (da_cU (de_neg de_int) da_nil))) da_nil)))))).frz rfl) (de_var h 1 rfl rfl rfl) .lst hf) ?_))
    exact wss_one (ws_ret (DE.to (de_tup (da_cB (de_bin (de_ix (de_var h 0 rfl rfl rfl) de_int (by walk_at "sq") (by walk_at "at")) (de_ix (de_var h 2 rfl rfl rfl) de_int (by walk_at "sq") (by walk_at "at")) (by walk_at "op")) (da_cB (de_bin (de_ix (de_var h 0 rfl rfl rfl) de_int (by walk_at "sq") (by walk_at "at")) (de_ix (de_var h 2 rfl rfl rfl) de_int (by walk_at "sq") (by walk_at "at")) (by walk_at "op")) da_nil))) (.now q)))
def besideL (p : Pt) : List Pt := [1, 2, 3, 4].map (led p)
def s_law_beside : SpD := fun ds M Q => ∃ (p : Pt), ds = [sqD p] ∧ Q (.lst ((besideL p).map sqD)) M
theorem ok__law_beside {X : Cx} (B : Bs X) : Dn X "_law_beside" 2 ["_law_spot"] s_law_beside := by
  refine def_by B 61 46 46 (k := 1) (N := ["_law_spot", "_law_own"]) rfl rfl ⟨rfl, rfl, rfl, by decide +kernel, rfl, by decide +kernel, by decide +kernel⟩ (fun _ _ _ _ _ _ us hl => match us, hl with | [_], _ => rfl) ?len ?body
  case len => rintro _ _ _ ⟨_, rfl, _⟩; rfl
  case body =>
    rintro X' h B _ M QD ⟨p, rfl, q⟩
    exact wss_one (ws_ret (DE.to (DO.frz (do_lcM h B [1, 2, 3, 4] .int (fun k => sqD (led p k)) [("_law_own", 1)] (tg_name h 1 rfl rfl (by simp)) rfl ⟨wi_tupE (de_tup (da_cC de_int (da_cC de_int (da_cC de_int (da_cC de_int da_nil))))) rfl, by simp, fun x hx => ⟨_, rfl, fun X' ⟨h, B, _⟩ m => de_call h (ok__law_over B) rfl (da_cN (de_var h 0 rfl rfl rfl) (da_cN (de_var h 1 rfl rfl rfl) da_nil)) ⟨p, x, rfl, by
      simp at hx
      rcases hx with rfl | rfl | rfl | rfl <;> simp [kindsL], rfl, rfl⟩⟩⟩)) (.now q)))
def arL (p : Pt) (i : Int) : List Pt := ([-1, 0, 1].filter fun j => !decide ((i, j) = ((0, 0) : Pt))).map fun j => (p.1 + i, p.2 + j)
theorem eight_ar (p : Pt) : [-1, 0, 1].flatMap (arL p) = eight p := by
  simp [arL, eight]
  omega
def s_law_around : SpD := fun ds M Q => ∃ (p : Pt), ds = [sqD p] ∧ Q (.lst ((eight p).map sqD)) M
theorem ok__law_around {X : Cx} (B : Bs X) : Dn X "_law_around" 1 ["_law_spot"] s_law_around := by
  refine def_by B 62 47 47 (k := 0) (N := ["_law_spot", "_law_found", "_law_i", "_law_j"]) rfl rfl ⟨rfl, rfl, rfl, by decide +kernel, rfl, by decide +kernel, by decide +kernel⟩ (fun _ _ _ _ _ _ us hl => match us, hl with | [_], _ => rfl) ?len ?body
  case len => rintro _ _ _ ⟨_, rfl, _⟩; rfl
  case body =>
    rintro X' h B _ M QD ⟨p, rfl, q⟩
    refine wss_cons (ws_set h 1 rfl rfl (DE.to (do_lst da_nil).frz ?_))
    refine wss_cons (ws_forT h [-1, 0, 1] .int (fun i ρ' M' => ∃ o2 o3, ρ' = [some (sqD p), some (.lst ((([-1, 0, 1].take i).flatMap (arL p)).map sqD)), o2, o3] ∧ M' = M) (fi_tup (de_tup (da_cU (de_neg de_int) (da_cC de_int (da_cC de_int da_nil)))) rfl) ⟨none, none, rfl, rfl⟩ ?_ ?_)
    · rintro i x ρ' M' hx ⟨o2, o3, rfl, rfl⟩
      have fl : (([-1, 0, 1].take i).flatMap (arL p)).length ≤ 9 := by
        have t3 : (List.take i [-1, 0, 1] : List Int).length ≤ 3 := by rw [List.length_take]; exact Nat.min_le_right _ _
        refine Nat.le_trans (flat_len (arL p) 3 ([-1, 0, 1].take i) fun s _ => ?_) (Nat.mul_le_mul_left 3 t3)
        unfold arL
        rw [List.length_map]
        exact List.length_filter_le _ _
      have f2 : (arL p x).length ≤ 3 := by
        unfold arL
        rw [List.length_map]
        exact List.length_filter_le _ _
      refine wg_name h 2 rfl rfl ?_
      refine wss_one (ws_set h 1 rfl rfl (DE.to (d := .lst ((([-1, 0, 1].take (i + 1)).flatMap (arL p)).map sqD)) (DE.as (DO.frz (do_bin (de_var h 1 rfl rfl rfl) (DO.frz (do_lcA h B [-1, 0, 1] .int (fun j => !decide ((x, j) = ((0, 0) : Pt))) (fun j => sqD (p.1 + x, p.2 + j)) [("_law_j", 3)] (tg_name h 3 rfl rfl (by simp)) rfl ⟨wi_tupE (de_tup (da_cU (de_neg de_int) (da_cC de_int (da_cC de_int da_nil)))) rfl, by simp, fun y hy => ⟨_, rfl, fun X' ⟨h, B, _⟩ m => dt_cmp (de_tup (da_cN (de_var h 2 rfl rfl rfl) (da_cN (de_var h 3 rfl rfl rfl) da_nil))) (de_tup (da_cC de_int (da_cC de_int da_nil))) (wo_neD h .id .id (datB_sq 59 (x, y)) (datB_sq 59 (0, 0)) ⟨congrArg (fun z => D.bl (!z)) (eqD_sq (x, y) (0, 0)), rfl⟩), fun _ X' ⟨h, B, _⟩ m => (de_tup (da_cB (de_bin (de_ix (de_var h 0 rfl rfl rfl) de_int (by walk_at "sq") (by walk_at "at")) (de_var h 2 rfl rfl rfl) (by walk_at "op")) (da_cB (de_bin (de_ix (de_var h 0 rfl rfl rfl) de_int (by walk_at "sq") (by walk_at "at")) (de_var h 3 rfl rfl rfl) (by walk_at "op")) da_nil)))⟩⟩)) (wo_cat .lst .lst ?z fun p => ⟨p, rfl, rfl⟩))) ?e) ⟨_, _, rfl, rfl⟩))
      case e =>
        rw [take_flat _ hx, List.map_append]
        show D.lst (_ ++ _) = D.lst (_ ++ _)
        congr 2
        unfold arL
        rw [List.map_map]
        rfl
      case z =>
        have := f2
        unfold arL at this
        rw [List.length_map] at this
        simp only [List.length_map]
        omega
    · rintro ρ' M' ⟨o2, o3, rfl, rfl⟩
      rw [List.take_length, eight_ar]
      exact wss_one (ws_ret (DE.to (de_var h 1 rfl rfl rfl) (.now q)))
theorem anyD_sq (r : List Pt) (n : Pt) : anyD (r.map sqD) (sqD n) = decide (n ∈ r) := by
  unfold anyD
  rw [List.any_map, Bool.eq_iff_iff, List.any_eq_true, decide_eq_true_eq]
  constructor
  · rintro ⟨x, hx, e⟩
    simp only [Function.comp, eqD_sq, decide_eq_true_eq] at e
    exact e ▸ hx
  · intro hn
    exact ⟨n, hn, by simp [Function.comp, eqD_sq]⟩
theorem datB_sqs (n : Nat) (r : List Pt) : ∀ e ∈ r.map sqD, datB (n + 1) e = true := fun e he => by
  obtain ⟨x, _, rfl⟩ := List.mem_map.mp he
  exact datB_sq n x
theorem nin_emp (r l : List Pt) : (l.filter fun n => !decide (n ∈ r)).isEmpty = nearAll r l := by
  unfold nearAll
  induction l with
  | nil => rfl
  | cons a l ih => by_cases e : a ∈ r <;> simp [e, ih]
theorem datB_pts (n : Nat) (l : List Pt) : datB (n + 2) (.lst (l.map sqD)) = true := by
  show (l.map sqD).all (datB (n + 1)) = true
  rw [List.all_eq_true]
  exact datB_sqs n l
def s_law_rim : SpD := fun ds M Q => ∃ (r : List Pt), ds = [roomD r] ∧ r.length ≤ 1000 ∧ Q (.tup ((rimL r).map sqD)) M
theorem ok__law_rim {X : Cx} (B : Bs X) : Dn X "_law_rim" 2 ["_law_ground"] s_law_rim := by
  refine def_by B 63 48 48 (k := 1) (N := ["_law_ground", "_law_spot", "_law_own"]) rfl rfl ⟨rfl, rfl, rfl, by decide +kernel, rfl, by decide +kernel, by decide +kernel⟩ (fun _ _ _ _ _ _ us hl => match us, hl with | [_], _ => rfl) ?len ?body
  case len => rintro _ _ _ ⟨_, rfl, _⟩; rfl
  case body =>
    rintro X' h B _ M QD ⟨r, rfl, hl, q⟩
    refine wss_one (ws_ret (DE.to (de_callTy h rfl B.f_tuple boot_tuple (da_cons (DO.frz (do_lcA h B r sqD (fun s => !nearAll r (eight s)) sqD [("_law_spot", 1)] (tg_name h 1 rfl rfl (by simp)) rfl ⟨wi_tupE (de_var h 0 rfl rfl rfl) rfl, by omega, fun x hx => ⟨_, rfl, fun X' ⟨h, B, _⟩ m => ?t, fun _ X' ⟨h, B, _⟩ m => (de_var h 1 rfl rfl rfl)⟩⟩)) da_nil) (wc_tuple .lst ⟨rfl, rfl⟩)) (.now q)))
    refine dt_cmp (DO.frz (do_lcA h B (eight x) sqD (fun n => !decide (n ∈ r)) sqD [("_law_own", 2)] (tg_name h 2 rfl rfl (by simp)) rfl ⟨wi_lstE (de_call h (ok__law_around B) rfl (da_cN (de_var h 1 rfl rfl rfl) da_nil) ⟨x, rfl, rfl, rfl⟩) rfl, by simp [eight], fun n _ => ⟨_, rfl, fun X' ⟨h, B, _⟩ m => dt_cmp (de_var h 2 rfl rfl rfl) (de_var h 0 rfl rfl rfl) (wo_nin h .id .tup (datB_sq 59 n) (datB_sqs 59 r) ⟨by rw [anyD_sq], rfl⟩), fun _ X' ⟨h, B, _⟩ m => (de_var h 2 rfl rfl rfl)⟩⟩)) (do_lst da_nil).frz (wo_neD h .id .id (datB_pts 58 _) rfl ⟨?e, rfl⟩)
    show D.bl (!eqD (D.lst _) (D.lst [])) = _
    rw [eqD_nil, List.isEmpty_map, nin_emp]
def s_law_four : SpD := fun ds M Q => ∃ p : Pt, ds = [sqD p] ∧ Q (.tup ((four p).map sqD)) M
theorem ok__law_four {X : Cx} (B : Bs X) : Dn X "_law_four" 1 ["_law_point_so"] s_law_four := by
  refine def_by B 64 49 49 (k := 0) (N := ["_law_point_so", "_law_x", "_law_y"]) rfl rfl ⟨rfl, rfl, rfl, by decide +kernel, rfl, by decide +kernel, by decide +kernel⟩ (fun _ _ _ _ _ _ us hl => match us, hl with | [_], _ => rfl) ?len ?body
  case len => rintro _ _ _ ⟨r, rfl, _⟩; rfl
  case body =>
    rintro X' h B _ M QD ⟨p, rfl, q⟩
    refine wss_cons (ws_asg (DE.to (de_var h 0 rfl rfl rfl) (wg_tup h (wgs_cons h 1 rfl rfl (wgs_cons h 2 rfl rfl (wgs_nil ?_))) rfl)))
    exact wss_one (ws_ret (DE.to (de_tup (da_cT (de_tup (da_cB (de_bin (de_var h 1 rfl rfl rfl) de_int (by walk_at "op")) (da_cB (de_bin (de_var h 2 rfl rfl rfl) de_int (by walk_at "op")) da_nil))) (da_cT (de_tup (da_cB (de_bin (de_var h 1 rfl rfl rfl) de_int (by walk_at "op")) (da_cN (de_var h 2 rfl rfl rfl) da_nil))) (da_cT (de_tup (da_cN (de_var h 1 rfl rfl rfl) (da_cB (de_bin (de_var h 2 rfl rfl rfl) de_int (by walk_at "op")) da_nil))) (da_cT (de_tup (da_cN (de_var h 1 rfl rfl rfl) (da_cN (de_var h 2 rfl rfl rfl) da_nil))) da_nil))))) (.now q)))
def s_law_points : SpD := fun ds M Q => ∃ (r : List Pt), ds = [roomD r] ∧ r.length ≤ 1000 ∧ Q (.tup ((pointsL r).map sqD)) M
theorem ok__law_points {X : Cx} (B : Bs X) : Dn X "_law_points" 2 ["_law_ground"] s_law_points := by
  refine def_by B 65 50 50 (k := 1) (N := ["_law_ground", "_law_spot", "_law_own"]) rfl rfl ⟨rfl, rfl, rfl, by decide +kernel, rfl, by decide +kernel, by decide +kernel⟩ (fun _ _ _ _ _ _ us hl => match us, hl with | [_], _ => rfl) ?len ?body
  case len => rintro _ _ _ ⟨_, rfl, _⟩; rfl
  case body =>
    rintro X' h B _ M QD ⟨r, rfl, hl, q⟩
    refine wss_one (ws_ret (DE.to (de_callTy h rfl B.f_tuple boot_tuple (da_cons (DO.frz (do_lcA h B r sqD (fun s => nearAll r (four s)) sqD [("_law_spot", 1)] (tg_name h 1 rfl rfl (by simp)) rfl ⟨wi_tupE (de_var h 0 rfl rfl rfl) rfl, by omega, fun x hx => ⟨_, rfl, fun X' ⟨h, B, _⟩ m => ?t, fun _ X' ⟨h, B, _⟩ m => (de_var h 1 rfl rfl rfl)⟩⟩)) da_nil) (wc_tuple .lst ⟨rfl, rfl⟩)) (.now q)))
    refine dt_cmp (DO.frz (do_lcA h B (four x) sqD (fun n => !decide (n ∈ r)) sqD [("_law_own", 2)] (tg_name h 2 rfl rfl (by simp)) rfl ⟨wi_tupE (de_call h (ok__law_four B) rfl (da_cN (de_var h 1 rfl rfl rfl) da_nil) ⟨x, rfl, rfl, rfl⟩) rfl, by simp [four], fun n _ => ⟨_, rfl, fun X' ⟨h, B, _⟩ m => dt_cmp (de_var h 2 rfl rfl rfl) (de_var h 0 rfl rfl rfl) (wo_nin h .id .tup (datB_sq 59 n) (datB_sqs 59 r) ⟨by rw [anyD_sq], rfl⟩), fun _ X' ⟨h, B, _⟩ m => (de_var h 2 rfl rfl rfl)⟩⟩)) (do_lst da_nil).frz (wo_eqD h .id .id (datB_pts 58 _) rfl ⟨?e, rfl⟩)
    show D.bl (eqD (D.lst _) (D.lst [])) = _
    rw [eqD_nil, List.isEmpty_map, nin_emp]
end DL

set_option maxHeartbeats 4000000
/-! walks: inside, why_no_border (they raise CanNot). -/
namespace DL
open PySem PySem.Spec PyProof.Rows L2 Evl

local macro_rules
  | `(tactic| walk_at "op") => `(tactic| first
    | exact wo_add ⟨rfl, rfl⟩ | exact wo_sub ⟨rfl, rfl⟩ | exact wo_lt ⟨rfl, rfl⟩ | exact wo_le ⟨rfl, rfl⟩ | exact wo_gt ⟨rfl, rfl⟩ | exact wo_ge ⟨rfl, rfl⟩
    | exact wo_eqi ⟨rfl, rfl⟩ | exact wo_nei ⟨rfl, rfl⟩ | exact wo_eqb ⟨rfl, rfl⟩ | exact wo_neb ⟨rfl, rfl⟩ | exact wo_isN ⟨rfl, rfl⟩ | exact wo_notN ⟨rfl, rfl⟩)
  | `(tactic| walk_at "sq") => `(tactic| first | exact Sq.tup | exact Sq.lst | exact Sq.tupN | exact Sq.ref _ rfl)
  | `(tactic| walk_at "at") => `(tactic| first | rfl | assumption)
  | `(tactic| walk_at "isi") => `(tactic| first | exact wc_isI (by assumption) ⟨rfl, rfl⟩ | exact wc_isB (by assumption) ⟨rfl, rfl⟩ | exact wc_isT (by assumption) ⟨rfl, rfl⟩ | exact wc_isL (by assumption) ⟨rfl, rfl⟩ | exact wc_isLT (by assumption) ⟨rfl, rfl⟩ | exact wc_isBS (by assumption) ⟨rfl, rfl⟩)
  | `(tactic| walk_at "len") => `(tactic| exact wc_len (by first | exact Sq.tup | exact Sq.lst | exact Sq.tupN | exact Sq.ref _ rfl) ⟨rfl, rfl⟩)
  | `(tactic| walk_at "tuple") => `(tactic| exact wc_tuple (by first | exact Sq.lst | exact Sq.tup | exact Sq.tupN | exact Sq.ref _ rfl) ⟨rfl, rfl⟩)
  | `(tactic| walk_at "all") => `(tactic| exact wc_all (by assumption) (by first | exact SqO.lst | exact SqO.ref _ rfl) ⟨rfl, rfl⟩)

local macro_rules
  | `(tactic| walk_at "is_number") => `(tactic| exact ⟨_, rfl, by assumption, rfl, rfl⟩)
  | `(tactic| walk_at "tupled") => `(tactic| exact ⟨_, rfl, by assumption, rfl, rfl⟩)

def s_inside : SpX := fun ds M Q QE => ∃ (d e : D) (r : List Pt) (bs : List Int), ds = [d, e] ∧ okD 2 d = true ∧ tupD d = roomD r ∧ Rm r ∧ okD 1 e = true ∧ tupD e = intsT bs ∧ GoodB r bs ∧
  (∀ F, IsFl r (letF (letsB r bs)) F → Q (flD r F) M) ∧ ((∀ F, ¬ IsFl r (letF (letsB r bs)) F) → QE M)
theorem ok_inside {X : Cx} (B : Bs X) : DnX X "inside" 8 ["room", "border"] ["border", "room"] swp s_inside := by
  refine def_byX B 50 36 36 (k := 7) (N := ["room", "border", "own", "told", "found"]) rfl rfl ⟨rfl, rfl, rfl, by decide +kernel, rfl, by decide +kernel, by decide +kernel⟩ swp_vals (fun _ _ _ _ _ _ ws hl => match ws, hl with | [_, _], _ => rfl) ?len ?body
  case len => rintro _ _ _ _ ⟨_, _, _, _, rfl, _⟩; rfl
  case body =>
    rintro X' h B' hc _ M QD QE ⟨d, e, r, bs, rfl, ho, ht, hr, ho2, ht2, hb, q1, q2⟩
    have B : Bs X'.nox := B'.same rfl rfl
    have hl := hr.len
    have ll := letsB_len (r := r) (bs := bs)
    refine wssX_cons (ws_asg (DE.to (de_call h (ok_border_sure B) rfl (da_cN (de_var h 0 rfl rfl rfl) (da_cN (de_var h 1 rfl rfl rfl) da_nil)) ⟨d, e, r, bs, rfl, ho, ht, hr, ho2, ht2, hb, rfl, rfl⟩) (wg_tup h (wgs_cons h 2 rfl rfl (wgs_cons h 3 rfl rfl (wgs_nil ?_))) rfl)))
    refine wssX_cons (ws_set h 4 rfl rfl (we_call h (ok_floor_for B) rfl (DA.to (da_cons (de_var h 2 rfl rfl rfl) (da_cons (de_call h (ok_lets_for B) rfl (da_cN (de_var h 2 rfl rfl rfl) (da_cN (de_var h 3 rfl rfl rfl) da_nil)) ⟨r, bs, rfl, by omega, rfl, rfl⟩) da_nil)) ⟨r, letsB r bs, rfl, hr.nd, hl, letsB_ok r bs, by omega, fun F hF => ?_, fun hF => ?_⟩)))
    · exact wssX_if hc B'.cn (h.gl rfl) (DT.to (d := false) (dt_cmp (de_var h 4 rfl rfl rfl) de_non (wo_isN ⟨rfl, rfl⟩)) ⟨fun c => (nomatch c), fun _ => wssX_tail (wss_one (ws_ret (DE.to (de_var h 4 rfl rfl rfl) (.now (q1 F hF)))))⟩)
    · exact wssX_if hc B'.cn (h.gl rfl) (DT.to (d := true) (dt_cmp (de_var h 4 rfl rfl rfl) de_non (wo_isN ⟨rfl, rfl⟩)) ⟨fun _ => ⟨[], M, rfl, q2 hF⟩, fun c => (nomatch c)⟩)
def s_why : SpX := fun ds M Q QE => ∃ (d e : D) (r : List Pt) (bs : List Int), ds = [d, e] ∧ okD 2 d = true ∧ tupD d = roomD r ∧ Rm r ∧ okD 1 e = true ∧ tupD e = intsT bs ∧ GoodB r bs ∧
  ∀ (L : Lf) (fd : List Stp), Rep r (letF (letsB r bs)) fd L → (∀ spot ∈ spotsL r, Stab r L spot) → (fallsB r L = true → Q (.tup (fd.map stepD)) M) ∧ (fallsB r L = false → QE M)
theorem ok_why_no_border {X : Cx} (B : Bs X) : DnX X "why_no_border" 8 ["room", "border"] ["border", "room"] swp s_why := by
  refine def_byX B 52 38 38 (k := 7) (N := ["room", "border", "own", "told", "left", "found"]) rfl rfl ⟨rfl, rfl, rfl, by decide +kernel, rfl, by decide +kernel, by decide +kernel⟩ swp_vals (fun _ _ _ _ _ _ ws hl => match ws, hl with | [_, _], _ => rfl) ?len ?body
  case len => rintro _ _ _ _ ⟨_, _, _, _, rfl, _⟩; rfl
  case body =>
    rintro X' h B' hc _ M QD QE ⟨d, e, r, bs, rfl, ho, ht, hr, ho2, ht2, hb, q⟩
    have B : Bs X'.nox := B'.same rfl rfl
    have hl := hr.len
    have ll := letsB_len (r := r) (bs := bs)
    refine wssX_cons (ws_asg (DE.to (de_call h (ok_border_sure B) rfl (da_cN (de_var h 0 rfl rfl rfl) (da_cN (de_var h 1 rfl rfl rfl) da_nil)) ⟨d, e, r, bs, rfl, ho, ht, hr, ho2, ht2, hb, rfl, rfl⟩) (wg_tup h (wgs_cons h 2 rfl rfl (wgs_cons h 3 rfl rfl (wgs_nil ?_))) rfl)))
    refine wssX_cons (ws_asg (we_call h (ok_rounds_in B) rfl (DA.to (da_cons (de_var h 2 rfl rfl rfl) (da_cons (de_call h (ok_lets_for B) rfl (da_cN (de_var h 2 rfl rfl rfl) (da_cN (de_var h 3 rfl rfl rfl) da_nil)) ⟨r, bs, rfl, by omega, rfl, rfl⟩) da_nil)) ⟨r, letsB r bs, rfl, hr.nd, hl, letsB_ok r bs, by omega, fun L fd hrep hnd hst => ?_⟩)))
    refine wg_tup h (wgs_cons h 4 rfl rfl (wgs_cons h 5 rfl rfl (wgs_nil ?_))) rfl
    obtain ⟨q1, q2⟩ := q L fd hrep hst
    refine wssX_if hc B'.cn (h.gl rfl) (DT.to (dt_not (dt_val (de_call h (ok_falls_in B) rfl (da_cN (de_var h 4 rfl rfl rfl) da_nil) ⟨r, L, rfl, by omega, rfl, rfl⟩))) ⟨fun c => ⟨[], M, rfl, q2 (by simpa using c)⟩, fun c => wssX_tail (wss_one (ws_ret (DE.to (de_callTy h rfl B.f_tuple boot_tuple (da_cN (de_var h 5 rfl rfl rfl) da_nil) (by walk_at "tuple")) (.now (q1 (by simpa using c))))))⟩)
end DL

set_option maxHeartbeats 4000000
/-! walks: the law's lists, its comparison. -/
-- FORMS
namespace DL
open PySem PySem.Spec PyProof.Rows L2 Evl

local macro_rules
  | `(tactic| walk_at "op") => `(tactic| first
    | exact wo_add ⟨rfl, rfl⟩ | exact wo_sub ⟨rfl, rfl⟩ | exact wo_lt ⟨rfl, rfl⟩ | exact wo_le ⟨rfl, rfl⟩ | exact wo_gt ⟨rfl, rfl⟩ | exact wo_ge ⟨rfl, rfl⟩
    | exact wo_eqi ⟨rfl, rfl⟩ | exact wo_nei ⟨rfl, rfl⟩ | exact wo_eqb ⟨rfl, rfl⟩ | exact wo_neb ⟨rfl, rfl⟩ | exact wo_isN ⟨rfl, rfl⟩ | exact wo_notN ⟨rfl, rfl⟩)
  | `(tactic| walk_at "sq") => `(tactic| first | exact Sq.tup | exact Sq.lst | exact Sq.tupN | exact Sq.ref _ rfl)
  | `(tactic| walk_at "at") => `(tactic| first | rfl | assumption)
  | `(tactic| walk_at "isi") => `(tactic| first | exact wc_isI (by assumption) ⟨rfl, rfl⟩ | exact wc_isB (by assumption) ⟨rfl, rfl⟩ | exact wc_isT (by assumption) ⟨rfl, rfl⟩ | exact wc_isL (by assumption) ⟨rfl, rfl⟩ | exact wc_isLT (by assumption) ⟨rfl, rfl⟩ | exact wc_isBS (by assumption) ⟨rfl, rfl⟩)
  | `(tactic| walk_at "len") => `(tactic| exact wc_len (by first | exact Sq.tup | exact Sq.lst | exact Sq.tupN | exact Sq.ref _ rfl) ⟨rfl, rfl⟩)
  | `(tactic| walk_at "tuple") => `(tactic| exact wc_tuple (by first | exact Sq.lst | exact Sq.tup | exact Sq.tupN | exact Sq.ref _ rfl) ⟨rfl, rfl⟩)
  | `(tactic| walk_at "all") => `(tactic| exact wc_all (by assumption) (by first | exact SqO.lst | exact SqO.ref _ rfl) ⟨rfl, rfl⟩)

local macro_rules
  | `(tactic| walk_at "is_number") => `(tactic| exact ⟨_, rfl, by assumption, rfl, rfl⟩)
  | `(tactic| walk_at "tupled") => `(tactic| exact ⟨_, rfl, by assumption, rfl, rfl⟩)

mutual
def lstD : D → D
  | .tup ds => .lst (lstDs ds)
  | .lst ds => .lst (lstDs ds)
  | d => d
def lstDs : List D → List D
  | [] => []
  | d :: ds => lstD d :: lstDs ds
end
theorem lstDs_map : ∀ ds : List D, lstDs ds = ds.map lstD
  | [] => by simp [lstDs]
  | d :: ds => by rw [lstDs, lstDs_map ds, List.map_cons]
def s_law_lists (n : Nat) : SpD := fun ds M Q => ∃ d, ds = [d] ∧ okD n d = true ∧ Q (lstD d) M
theorem lists_step (n : Nat) (ih : ∀ m, n = m + 1 → ∀ {X : Cx} (B : Bs X), Dn X "_law_lists" (m + 1) ["_law_matter"] (s_law_lists m)) {X : Cx} (B : Bs X) : Dn X "_law_lists" (n + 1) ["_law_matter"] (s_law_lists n) := by
  refine def_by B 58 43 43 (k := n) (N := ["_law_matter", "_law_bit"]) rfl rfl ⟨rfl, rfl, rfl, by decide +kernel, rfl, by decide +kernel, by decide +kernel⟩ (fun _ _ _ _ _ _ us hl => match us, hl with | [_], _ => rfl) ?len ?body
  case len => rintro _ _ _ ⟨d, rfl, _⟩; rfl
  case body =>
    rintro X' h B _ M QD ⟨d, rfl, ho, q⟩
    have ht := okD_t ho
    refine wss_one (ws_ret (we_ifE (DT.to (dt_val (de_callB h rfl B.f_isinstance boot_isinstance (da_cN (de_var h 0 rfl rfl rfl) (da_cT (de_tup (da_cN (de_ty h rfl B.f_list boot_list) (da_cN (de_ty h rfl B.f_tuple boot_tuple) da_nil))) da_nil)) (by walk_at "isi"))) ⟨fun c => ?_, fun c => ?_⟩)))
    · cases n with
      | zero => cases d <;> simp [okD, isLstD, isTupD] at ho c
      | succ n =>
        cases d with
        | lst ds =>
          simp only [okD, Bool.and_eq_true, List.all_eq_true, decide_eq_true_eq] at ho
          refine DE.to (d := lstD (.lst ds)) (DE.as (DO.frz (do_lcM h B ds id lstD [("_law_bit", 1)] (tg_name h 1 rfl rfl (by simp)) rfl
            ⟨wi_lstE (de_var h 0 rfl rfl rfl) (by simp), by omega, fun x hx => ⟨_, rfl, fun X' ⟨h, B, _⟩ m => ?_⟩⟩)) (by show D.lst _ = _; simp [lstD, lstDs_map])) (.now q)
          exact de_call h (ih n rfl B) rfl (da_cons (de_var h 1 rfl rfl rfl) da_nil) ⟨_, rfl, ho.1 x hx, rfl, rfl⟩ (by omega)
        | tup ds =>
          simp only [okD, Bool.and_eq_true, List.all_eq_true, decide_eq_true_eq] at ho
          refine DE.to (d := lstD (.tup ds)) (DE.as (DO.frz (do_lcM h B ds id lstD [("_law_bit", 1)] (tg_name h 1 rfl rfl (by simp)) rfl
            ⟨wi_tupE (de_var h 0 rfl rfl rfl) (by simp), by omega, fun x hx => ⟨_, rfl, fun X' ⟨h, B, _⟩ m => ?_⟩⟩)) (by show D.lst _ = _; simp [lstD, lstDs_map])) (.now q)
          exact de_call h (ih n rfl B) rfl (da_cons (de_var h 1 rfl rfl rfl) da_nil) ⟨_, rfl, ho.1 x hx, rfl, rfl⟩ (by omega)
        | _ => simp [okD, isLstD, isTupD] at ho c
    · refine (de_var h 0 rfl rfl rfl).to (.now ?_)
      have e : lstD d = d := by cases d <;> simp [lstD, isLstD, isTupD] at c ⊢
      rw [e] at q
      exact q
theorem ok_law_lists (n : Nat) : ∀ {X : Cx} (B : Bs X), Dn X "_law_lists" (n + 1) ["_law_matter"] (s_law_lists n) := by
  induction n with
  | zero => exact lists_step 0 fun m e => nomatch e
  | succ n ih => exact lists_step (n + 1) fun m e => by cases e; exact ih

theorem okD_dat : ∀ (n m : Nat) (d : D), n ≤ m → okD n d = true → datB m d = true
  | _, m, .non, _, _ => by cases m <;> rfl
  | _, m, .bl _, _, _ => by cases m <;> rfl
  | _, m, .int _, _, _ => by cases m <;> rfl
  | n, m, .str x, _, h => by cases n <;> cases m <;> (simp only [okD] at h; simpa only [datB] using h)
  | n + 1, m + 1, .tup ds, hm, h => by
    simp only [okD, Bool.and_eq_true, List.all_eq_true] at h
    simp only [datB, List.all_eq_true]
    exact fun x hx => okD_dat n m x (by omega) (h.1 x hx)
  | n + 1, m + 1, .lst ds, hm, h => by
    simp only [okD, Bool.and_eq_true, List.all_eq_true] at h
    simp only [datB, List.all_eq_true]
    exact fun x hx => okD_dat n m x (by omega) (h.1 x hx)
  | 0, _, .tup _, _, h => by simp [okD] at h
  | 0, _, .lst _, _, h => by simp [okD] at h
  | n, _, .dic _, _, h => by cases n <;> simp [okD] at h
  | n, _, .dik _, _, h => by cases n <;> simp [okD] at h
  | n, _, .ref _, _, h => by cases n <;> simp [okD] at h
  | n, _, .ty _, _, h => by cases n <;> simp [okD] at h
  | n, _, .tupN _, _, h => by cases n <;> simp [okD] at h
  | n, _, .lsK _, _, h => by cases n <;> simp [okD] at h
def leafD (g d : D) : Bool := match d with
  | .int _ => isIntD g && (!isBlD g && eqD g d)
  | _ => eqD g d && ((isBlD g == isBlD d) && (isNonD g == isNonD d))
def sameD : Nat → D → D → Bool
  | n + 1, .lst gs, .lst ds => decide ((gs.length : Int) = ds.length) && (gs.zip ds).all fun x => sameD n x.1 x.2
  | n + 1, .tup gs, .tup ds => decide ((gs.length : Int) = ds.length) && (gs.zip ds).all fun x => sameD n x.1 x.2
  | _, g, d => !isLstD d && (!isTupD d && leafD g d)
def s_law_same (n : Nat) : SpD := fun ds M Q => ∃ g d, ds = [g, d] ∧ okD n g = true ∧ okD n d = true ∧ Q (.bl (sameD n g d)) M
theorem same_step (n : Nat) (hn : n ≤ 50) (ih : ∀ m, n = m + 1 → ∀ {X : Cx} (B : Bs X), Dn X "_law_same" (m + 1) ["_law_got", "_law_due"] (s_law_same m)) {X : Cx} (B : Bs X) : Dn X "_law_same" (n + 1) ["_law_got", "_law_due"] (s_law_same n) := by
  refine def_by B 59 44 44 (k := n) (N := ["_law_got", "_law_due", "_law_mine", "_law_its"]) rfl rfl ⟨rfl, rfl, rfl, by decide +kernel, rfl, by decide +kernel, by decide +kernel⟩ (fun _ _ _ _ _ _ us hl => match us, hl with | [_, _], _ => rfl) ?len ?body
  case len => rintro _ _ _ ⟨g, d, rfl, _⟩; rfl
  case body =>
    rintro X' h B _ M QD ⟨g, d, rfl, hg, hd, q⟩
    have ht := okD_t hg
    have ht2 := okD_t hd
    have g1 := okD_dat n 60 g (by omega) hg
    have g2 := okD_dat n 60 d (by omega) hd
    refine wss_cons (ws_if (DT.to (dt_val (de_callB h rfl B.f_isinstance boot_isinstance (da_cN (de_var h 1 rfl rfl rfl) (da_cT (de_tup (da_cN (de_ty h rfl B.f_list boot_list) (da_cN (de_ty h rfl B.f_tuple boot_tuple) da_nil))) da_nil)) (by walk_at "isi"))) ⟨fun c => ?_, fun c => wss_nil ?_⟩))
    · refine wss_cons (ws_if (DT.to (dw_or (dt_cmp (de_callB h rfl B.f_isinstance boot_isinstance (da_cN (de_var h 0 rfl rfl rfl) (da_cN (de_ty h rfl B.f_list boot_list) da_nil)) (by walk_at "isi")) (de_callB h rfl B.f_isinstance boot_isinstance (da_cN (de_var h 1 rfl rfl rfl) (da_cN (de_ty h rfl B.f_list boot_list) da_nil)) (by walk_at "isi")) (by walk_at "op")) fun c1 => (dw_or1 (dt_cmp (de_callB h rfl B.f_isinstance boot_isinstance (da_cN (de_var h 0 rfl rfl rfl) (da_cN (de_ty h rfl B.f_tuple boot_tuple) da_nil)) (by walk_at "isi")) (de_callB h rfl B.f_isinstance boot_isinstance (da_cN (de_var h 1 rfl rfl rfl) (da_cN (de_ty h rfl B.f_tuple boot_tuple) da_nil)) (by walk_at "isi")) (by walk_at "op")))).dt ⟨fun c2 => wss_one (ws_ret (DE.to (d := .bl false) de_bl (.now ?_))), fun c2 => wss_nil ?_⟩))
      · have e : sameD n g d = false := by
          cases n <;> cases g <;> cases d <;> simp_all [sameD, isLstD, isTupD]
        rw [e] at q
        exact q
      · cases n with
        | zero => cases d <;> simp [okD, isLstD, isTupD] at hd c
        | succ n =>
          cases d with
          | lst ds =>
            cases g with
            | lst gs =>
              simp only [okD, Bool.and_eq_true, List.all_eq_true, decide_eq_true_eq] at hg hd
              refine wss_one (ws_ret (DE.to (d := .bl (sameD (n + 1) (.lst gs) (.lst ds))) (DE.as (de_and (de_cmp (de_callB h rfl B.f_len boot_len (da_cN (de_var h 0 rfl rfl rfl) da_nil) (by walk_at "len")) (de_callB h rfl B.f_len boot_len (da_cN (de_var h 1 rfl rfl rfl) da_nil) (by walk_at "len")) (by walk_at "op")) fun c3 => de_one (de_all h B (l0 := gs.zip ds) (c := fun x => sameD n x.1 x.2) rfl (do_lcM h B (gs.zip ds) (fun x => .tup [x.1, x.2]) (fun x => .bl (sameD n x.1 x.2)) [("_law_mine", 2), ("_law_its", 3)] (tg_pair h 2 3 rfl rfl rfl rfl (by simp) (by simp)) rfl
                ⟨wi_zp h rfl B.f_zip ((da_cons (de_var h 0 rfl rfl rfl) (da_cons (de_var h 1 rfl rfl rfl) da_nil)).to ⟨_, _, gs, ds, rfl, .lst, .lst, rfl, fun _ => ⟨.lst, .lst⟩, rfl⟩), by rw [List.length_zip]; omega, fun x hx => ⟨_, rfl, fun X' ⟨h, B, _⟩ m => ?_⟩⟩) rfl)) (by rw [sameD])) (.now q)))
              obtain ⟨h1, h2⟩ := List.of_mem_zip hx
              exact de_call h (ih n rfl B) rfl (da_cons (de_var h 2 rfl rfl rfl) (da_cons (de_var h 3 rfl rfl rfl) da_nil)) ⟨_, _, rfl, hg.1 _ h1, hd.1 _ h2, rfl, rfl⟩ (by omega)
            | _ => simp [isLstD, isTupD] at c2
          | tup ds =>
            cases g with
            | tup gs =>
              simp only [okD, Bool.and_eq_true, List.all_eq_true, decide_eq_true_eq] at hg hd
              refine wss_one (ws_ret (DE.to (d := .bl (sameD (n + 1) (.tup gs) (.tup ds))) (DE.as (de_and (de_cmp (de_callB h rfl B.f_len boot_len (da_cN (de_var h 0 rfl rfl rfl) da_nil) (by walk_at "len")) (de_callB h rfl B.f_len boot_len (da_cN (de_var h 1 rfl rfl rfl) da_nil) (by walk_at "len")) (by walk_at "op")) fun c3 => de_one (de_all h B (l0 := gs.zip ds) (c := fun x => sameD n x.1 x.2) rfl (do_lcM h B (gs.zip ds) (fun x => .tup [x.1, x.2]) (fun x => .bl (sameD n x.1 x.2)) [("_law_mine", 2), ("_law_its", 3)] (tg_pair h 2 3 rfl rfl rfl rfl (by simp) (by simp)) rfl
                ⟨wi_zp h rfl B.f_zip ((da_cons (de_var h 0 rfl rfl rfl) (da_cons (de_var h 1 rfl rfl rfl) da_nil)).to ⟨_, _, gs, ds, rfl, .tup, .tup, rfl, fun _ => ⟨.tup, .tup⟩, rfl⟩), by rw [List.length_zip]; omega, fun x hx => ⟨_, rfl, fun X' ⟨h, B, _⟩ m => ?_⟩⟩) rfl)) (by rw [sameD])) (.now q)))
              obtain ⟨h1, h2⟩ := List.of_mem_zip hx
              exact de_call h (ih n rfl B) rfl (da_cons (de_var h 2 rfl rfl rfl) (da_cons (de_var h 3 rfl rfl rfl) da_nil)) ⟨_, _, rfl, hg.1 _ h1, hd.1 _ h2, rfl, rfl⟩ (by omega)
            | _ => simp [isLstD, isTupD, okD] at c2 hg
          | _ => simp [okD, isLstD, isTupD] at hd c
    · have e : sameD n g d = leafD g d := by
        cases n <;> cases g <;> cases d <;> simp_all [sameD, isLstD, isTupD]
      rw [e] at q
      refine wss_cons (ws_if (DT.to (dw_or (dt_cmp (de_var h 1 rfl rfl rfl) de_non (by walk_at "op")) fun c2 => (dw_or1 (dt_val (de_callB h rfl B.f_isinstance boot_isinstance (da_cN (de_var h 1 rfl rfl rfl) (da_cT (de_tup (da_cN (de_ty h rfl B.f_bool boot_bool) (da_cN (de_ty h rfl B.f_str boot_str) da_nil))) da_nil)) (by walk_at "isi"))))).dt ⟨fun c2 => ?_, fun c2 => wss_nil ?_⟩))
      · refine wss_one (ws_ret (DE.to (d := .bl (leafD g d)) (DE.as (de_and (de_cmp (de_var h 0 rfl rfl rfl) (de_var h 1 rfl rfl rfl) (wo_eqD h .id .id g1 g2 ⟨rfl, rfl⟩)) fun c => de_and (de_cmp (de_callB h rfl B.f_isinstance boot_isinstance (da_cN (de_var h 0 rfl rfl rfl) (da_cN (de_ty h rfl B.f_bool boot_bool) da_nil)) (by walk_at "isi")) (de_callB h rfl B.f_isinstance boot_isinstance (da_cN (de_var h 1 rfl rfl rfl) (da_cN (de_ty h rfl B.f_bool boot_bool) da_nil)) (by walk_at "isi")) (by walk_at "op")) fun c => de_one (de_cmp (de_cmp (de_var h 0 rfl rfl rfl) de_non (by walk_at "op")) (de_cmp (de_var h 1 rfl rfl rfl) de_non (by walk_at "op")) (by walk_at "op"))) ?_) (.now q)))
        cases d <;> first | rfl | (simp [isNonD, isBlD, isStrD] at c2; done)
      · refine wss_one (ws_ret (DE.to (d := .bl (leafD g d)) (DE.as (de_and (de_callB h rfl B.f_isinstance boot_isinstance (da_cN (de_var h 0 rfl rfl rfl) (da_cN (de_ty h rfl B.f_int boot_int) da_nil)) (by walk_at "isi")) fun c => de_and (de_notV (de_callB h rfl B.f_isinstance boot_isinstance (da_cN (de_var h 0 rfl rfl rfl) (da_cN (de_ty h rfl B.f_bool boot_bool) da_nil)) (by walk_at "isi"))) fun c => de_one (de_cmp (de_var h 0 rfl rfl rfl) (de_var h 1 rfl rfl rfl) (wo_eqD h .id .id g1 g2 ⟨rfl, rfl⟩))) ?_) (.now q)))
        cases d <;> first | rfl | (simp [isNonD, isBlD, isStrD, isLstD, isTupD] at c c2; done) | (cases n <;> simp [okD] at hd; done)
theorem ok_law_same (n : Nat) (hn : n ≤ 50) : ∀ {X : Cx} (B : Bs X), Dn X "_law_same" (n + 1) ["_law_got", "_law_due"] (s_law_same n) := by
  induction n with
  | zero => exact same_step 0 hn fun m e => nomatch e
  | succ n ih => exact same_step (n + 1) hn fun m e => by cases e; exact ih (by omega)
end DL

set_option maxHeartbeats 4000000
/-! plain: what a floor is; a border tells it. -/
namespace DL
open PySem PySem.Spec PyProof.Rows L2 Evl

/-- a floor, square by square -/
structure FlP (r : List Pt) (F : Pt → Int) : Prop where
  k : ∀ p ∈ r, F p ∈ kindsL
  in_ : ∀ p ∈ r, led p (F p) ∈ r
  ac : ∀ p ∈ r, (p.1 + 1, p.2) ∈ r → (F p = 1 ↔ F (p.1 + 1, p.2) = 3)
  dn : ∀ p ∈ r, (p.1, p.2 + 1) ∈ r → (F p = 2 ↔ F (p.1, p.2 + 1) = 4)
  pt : ∀ p ∈ r, (p.1 - 1, p.2 - 1) ∈ r → (p.1 - 1, p.2) ∈ r → (p.1, p.2 - 1) ∈ r → F (p.1 - 1, p.2 - 1) = 1 ∨ F (p.1 - 1, p.2 - 1) = 2 ∨ F (p.1 - 1, p.2) = 1 ∨ F (p.1, p.2 - 1) = 2
theorem row_single {F : Pt → Int} {r spot : List Pt} {row : List Int} (h : RowIn r (fun s => [F s]) spot row) : row = spot.map F := by
  obtain ⟨hl, hm, _⟩ := h
  apply List.ext_getElem?
  intro i
  rw [List.getElem?_map]
  by_cases hi : i < spot.length
  · have e := hm i spot[i] (List.getElem?_eq_getElem hi)
    rw [List.mem_singleton, List.getD_eq_getElem?_getD, List.getElem?_eq_getElem (by omega)] at e
    rw [List.getElem?_eq_getElem hi, List.getElem?_eq_getElem (by omega)]
    exact congrArg some e
  · rw [List.getElem?_eq_none (by omega), List.getElem?_eq_none (by omega)]; rfl
theorem isFl_rows {r : List Pt} {L : Lf} {F : Pt → Int} : IsFl r L F ↔ (∀ s ∈ r, F s ∈ L s) ∧ ∀ spot ∈ spotsL r, okRow r spot (spot.map F) = true := by
  refine and_congr_right fun _ => ⟨fun h spot hs => ?_, fun h spot hs i s hi k hk => ?_⟩
  · have ne := spots_ne r spot hs
    obtain ⟨s, hs0⟩ := List.exists_mem_of_ne_nil _ ne
    obtain ⟨i, hi⟩ := List.mem_iff_getElem?.mp hs0
    obtain ⟨row, hr, _⟩ := h spot hs i s hi (F s) (by simp)
    have e := row_single hr
    subst e
    exact hr.2.2
  · rw [List.mem_singleton] at hk
    subst hk
    refine ⟨spot.map F, ⟨by simp, fun i s hi => ?_, h spot hs⟩, ?_⟩
    · rw [List.mem_singleton, List.getD_eq_getElem?_getD, List.getElem?_map, hi]; rfl
    · rw [List.getD_eq_getElem?_getD, List.getElem?_map, hi]; rfl
theorem mem_spots {r spot : List Pt} : spot ∈ spotsL r ↔ (∃ p ∈ pointsL r, spot = four p) ∨ ∃ p ∈ r, spot = [p] ∨ ((p.1, p.2 + 1) ∈ r ∧ spot = [p, (p.1, p.2 + 1)]) ∨ ((p.1 + 1, p.2) ∈ r ∧ spot = [p, (p.1 + 1, p.2)]) := by
  unfold spotsL pairsL
  simp only [List.mem_append, List.mem_map, List.mem_flatMap, List.mem_cons, List.mem_filter, decide_eq_true_eq]
  constructor
  · rintro (⟨p, hp, rfl⟩ | ⟨p, hp, rfl | ⟨n, ⟨hn, hr⟩, rfl⟩⟩)
    · exact .inl ⟨p, hp, rfl⟩
    · exact .inr ⟨p, hp, .inl rfl⟩
    · rcases hn with rfl | hn
      · exact .inr ⟨p, hp, .inr (.inl ⟨hr, rfl⟩)⟩
      · rcases hn with rfl | hn
        · exact .inr ⟨p, hp, .inr (.inr ⟨hr, rfl⟩)⟩
        · cases hn
  · rintro (⟨p, hp, rfl⟩ | ⟨p, hp, rfl | ⟨hr, rfl⟩ | ⟨hr, rfl⟩⟩)
    · exact .inl ⟨p, hp, rfl⟩
    · exact .inr ⟨p, hp, .inl rfl⟩
    · exact .inr ⟨p, hp, .inr ⟨_, ⟨.inl rfl, hr⟩, rfl⟩⟩
    · exact .inr ⟨p, hp, .inr ⟨_, ⟨.inr (.inl rfl), hr⟩, rfl⟩⟩
theorem mem_points {r : List Pt} {p : Pt} : p ∈ pointsL r ↔ p ∈ r ∧ (p.1 - 1, p.2 - 1) ∈ r ∧ (p.1 - 1, p.2) ∈ r ∧ (p.1, p.2 - 1) ∈ r := by
  unfold pointsL nearAll four
  simp only [List.mem_filter, List.all_cons, List.all_nil, Bool.and_true, Bool.and_eq_true, decide_eq_true_eq]
  exact ⟨fun ⟨h, a, b, c, _⟩ => ⟨h, a, b, c⟩, fun ⟨h, a, b, c⟩ => ⟨h, a, b, c, h⟩⟩
theorem bq {p q : Prop} [Decidable p] [Decidable q] : (decide p == decide q) = true ↔ (p ↔ q) := by
  by_cases hp : p <;> by_cases hq : q <;> simp [hp, hq]
theorem isFl_iff {r : List Pt} {L : Lf} {F : Pt → Int} : IsFl r L F ↔ (∀ s ∈ r, F s ∈ L s) ∧ FlP r F := by
  rw [isFl_rows]
  refine and_congr_right fun _ => ⟨fun h => ?_, fun h spot hs => ?_⟩
  · have g : ∀ p ∈ r, F p ∈ kindsL ∧ led p (F p) ∈ r := fun p hp => by
      have := h [p] (mem_spots.mpr (.inr ⟨p, hp, .inl rfl⟩))
      simpa [okRow, goodsL] using this
    refine ⟨fun p hp => (g p hp).1, fun p hp => (g p hp).2, fun p hp hq => ?_, fun p hp hq => ?_, fun p hp h1 h2 h3 => ?_⟩
    · have := h _ (mem_spots.mpr (.inr ⟨p, hp, .inr (.inr ⟨hq, rfl⟩)⟩))
      simp only [okRow, List.map_cons, List.map_nil, fits2, if_true, fitsA] at this
      exact bq.mp this
    · have := h _ (mem_spots.mpr (.inr ⟨p, hp, .inr (.inl ⟨hq, rfl⟩)⟩))
      simp only [okRow, List.map_cons, List.map_nil, fits2] at this
      rw [if_neg (by omega)] at this
      exact bq.mp this
    · have := h _ (mem_spots.mpr (.inl ⟨p, mem_points.mpr ⟨hp, h1, h2, h3⟩, rfl⟩))
      simp only [okRow, four, List.map_cons, List.map_nil, four1, Bool.and_eq_true, Bool.or_eq_true, decide_eq_true_eq, List.mem_cons, List.not_mem_nil, or_false] at this
      rcases this.2.1 with (a | a) | a | a
      · exact .inl a
      · exact .inr (.inl a)
      · exact .inr (.inr (.inl a))
      · exact .inr (.inr (.inr a))
  · rcases mem_spots.mp hs with ⟨p, hp, rfl⟩ | ⟨p, hp, rfl | ⟨hq, rfl⟩ | ⟨hq, rfl⟩⟩
    · obtain ⟨h0, h1, h2, h3⟩ := mem_points.mp hp
      simp only [okRow, four, List.map_cons, List.map_nil, four1, Bool.and_eq_true, Bool.or_eq_true, decide_eq_true_eq, List.mem_cons, List.not_mem_nil, or_false]
      have e1 := h.dn _ h1 (by simpa using h2)
      have e2 := h.ac _ h1 (by simpa using h3)
      have e3 := h.ac _ h2 (by simpa using h0)
      have e4 := h.dn _ h3 (by simpa using h0)
      simp only [Int.sub_add_cancel] at e1 e2 e3 e4
      refine ⟨⟨bq.mpr e1, bq.mpr e2⟩, ?_, bq.mpr e3, bq.mpr e4⟩
      rcases h.pt p h0 h1 h2 h3 with a | a | a | a
      · exact .inl (.inl a)
      · exact .inl (.inr a)
      · exact .inr (.inl a)
      · exact .inr (.inr a)
    · simp only [okRow, List.map_cons, List.map_nil, goodsL, List.mem_filter, decide_eq_true_eq]
      exact ⟨h.k p hp, h.in_ p hp⟩
    · simp only [okRow, List.map_cons, List.map_nil, fits2]
      rw [if_neg (by omega)]
      exact bq.mpr (h.dn p hp hq)
    · simp only [okRow, List.map_cons, List.map_nil, fits2, if_true]
      exact bq.mpr (h.ac p hp hq)

/-! ### the border tells the floor -/
/-- what holds about an inner square: nw w sw n t s ne e se -/
structure Nine (a b c d t e f g h : Int) : Prop where
  kt : t = 0 ∨ t = 1 ∨ t = 2 ∨ t = 3 ∨ t = 4
  h1 : a = 1 ↔ d = 3
  h2 : d = 1 ↔ f = 3
  h3 : b = 1 ↔ t = 3
  h4 : t = 1 ↔ g = 3
  h5 : c = 1 ↔ e = 3
  h6 : e = 1 ↔ h = 3
  v1 : a = 2 ↔ b = 4
  v2 : b = 2 ↔ c = 4
  v3 : d = 2 ↔ t = 4
  v4 : t = 2 ↔ e = 4
  v5 : f = 2 ↔ g = 4
  v6 : g = 2 ↔ h = 4
  p1 : a = 1 ∨ a = 2 ∨ b = 1 ∨ d = 2
  p2 : b = 1 ∨ b = 2 ∨ c = 1 ∨ t = 2
  p3 : d = 1 ∨ d = 2 ∨ t = 1 ∨ f = 2
  p4 : t = 1 ∨ t = 2 ∨ e = 1 ∨ g = 2
abbrev NineAt (F : Pt → Int) (p : Pt) : Prop := Nine (F (p.1 - 1, p.2 - 1)) (F (p.1 - 1, p.2)) (F (p.1 - 1, p.2 + 1)) (F (p.1, p.2 - 1)) (F p) (F (p.1, p.2 + 1)) (F (p.1 + 1, p.2 - 1)) (F (p.1 + 1, p.2)) (F (p.1 + 1, p.2 + 1))
theorem FlP.nine {r : List Pt} {F : Pt → Int} (h : FlP r F) {p : Pt} (hp : p ∈ r) (hn : nearAll r (eight p) = true) : NineAt F p := by
  unfold nearAll eight at hn
  simp only [List.all_cons, List.all_nil, Bool.and_true, Bool.and_eq_true, decide_eq_true_eq] at hn
  obtain ⟨a, b, c, d, e, f, g, i⟩ := hn
  have h1 := h.ac _ a (by simpa using d)
  have h2 := h.ac _ d (by simpa using f)
  have h3 := h.ac _ b (by simpa using hp)
  have h4 := h.ac _ hp (by simpa using g)
  have h5 := h.ac _ c (by simpa using e)
  have h6 := h.ac _ e (by simpa using i)
  have v1 := h.dn _ a (by simpa using b)
  have v2 := h.dn _ b (by simpa using c)
  have v3 := h.dn _ d (by simpa using hp)
  have v4 := h.dn _ hp (by simpa using e)
  have v5 := h.dn _ f (by simpa using g)
  have v6 := h.dn _ g (by simpa using i)
  have p1 := h.pt _ hp a b d
  have p2 := h.pt _ e (by simpa using b) (by simpa using c) (by simpa using hp)
  have p3 := h.pt _ g (by simpa using d) (by simpa using hp) (by simpa using f)
  have p4 := h.pt _ i (by simpa using hp) (by simpa using e) (by simpa using g)
  simp only [Int.sub_add_cancel, Int.add_sub_cancel] at h1 h2 h3 h4 h5 h6 v1 v2 v3 v4 v5 v6 p1 p2 p3 p4
  exact ⟨kind_cases (h.k p hp), h1, h2, h3, h4, h5, h6, v1, v2, v3, v4, v5, v6, p1, p2, p3, p4⟩
theorem no_ray {r : List Pt} {P : Pt → Prop} (f : Pt → Int) (h : ∀ t, P t → t ∈ r ∧ ∃ t', P t' ∧ f t < f t') : ∀ t, ¬ P t := by
  have hb : ∃ B : Int, ∀ t ∈ r, f t < B := by
    clear h
    induction r with
    | nil => exact ⟨0, fun t ht => by cases ht⟩
    | cons a r ih =>
      obtain ⟨B, hB⟩ := ih
      refine ⟨max B (f a + 1), fun t ht => ?_⟩
      rcases List.mem_cons.mp ht with rfl | ht
      · omega
      · have := hB t ht; omega
  obtain ⟨B, hB⟩ := hb
  have key : ∀ (n : Nat) (t : Pt), (B - f t).toNat ≤ n → ¬ P t := by
    intro n
    induction n with
    | zero =>
      intro t ht hp
      have := hB t (h t hp).1
      omega
    | succ n ih =>
      intro t ht hp
      obtain ⟨h1, t', h2, h3⟩ := h t hp
      have := hB t h1
      exact ih t' (by omega) h2
  exact fun t => key _ t (Nat.le_refl _)
/-- two floors that agree at the rim -/
structure Two (r : List Pt) (X Y : Pt → Int) : Prop where
  x : FlP r X
  y : FlP r Y
  rim : ∀ p ∈ r, nearAll r (eight p) = false → X p = Y p
theorem Two.swap {r : List Pt} {X Y : Pt → Int} (h : Two r X Y) : Two r Y X := ⟨h.y, h.x, fun p hp e => (h.rim p hp e).symm⟩
theorem Two.inner {r : List Pt} {X Y : Pt → Int} (h : Two r X Y) {p : Pt} (hp : p ∈ r) (ne : X p ≠ Y p) : nearAll r (eight p) = true := by
  cases e : nearAll r (eight p) with
  | true => rfl
  | false => exact absurd (h.rim p hp e) ne
theorem eight_in {r : List Pt} {p : Pt} (hn : nearAll r (eight p) = true) : (p.1 - 1, p.2 - 1) ∈ r ∧ (p.1 - 1, p.2) ∈ r ∧ (p.1 - 1, p.2 + 1) ∈ r ∧ (p.1, p.2 - 1) ∈ r ∧ (p.1, p.2 + 1) ∈ r ∧ (p.1 + 1, p.2 - 1) ∈ r ∧ (p.1 + 1, p.2) ∈ r ∧ (p.1 + 1, p.2 + 1) ∈ r := by
  unfold nearAll eight at hn
  simpa only [List.all_cons, List.all_nil, Bool.and_true, Bool.and_eq_true, decide_eq_true_eq] using hn
section
variable {r : List Pt} {X Y : Pt → Int}
theorem ray_ne (h : Two r X Y) : ∀ t, ¬ (t ∈ r ∧ X t = 2 ∧ X (t.1 - 1, t.2) = 3 ∧ (Y (t.1, t.2 + 1) = 2 ∨ Y (t.1, t.2 + 1) = 3)) := by
  refine no_ray (r := r) (fun t => t.1) fun t ⟨ht, x1, x2, y1⟩ => ⟨ht, (t.1 + 1, t.2 - 1), ?_, by show t.1 < t.1 + 1; omega⟩
  have hs : (t.1, t.2 + 1) ∈ r := by have := h.x.in_ t ht; rw [x1] at this; exact this
  have inn := h.inner ht (by
    have e1 := h.x.dn t ht hs
    have e2 := h.y.dn t ht hs
    omega)
  have a := h.x.nine ht inn
  have b := h.y.nine ht inn
  obtain ⟨_, _, _, _, _, i1, _, _⟩ := eight_in inn
  refine ⟨i1, ?_⟩
  simp only [Int.add_sub_cancel, Int.sub_add_cancel]
  have n3 : X (t.1, t.2 - 1) = 3 := by
    have := a.p1; have := a.v1; have := a.v3; have := a.h1
    omega
  have f2 : X (t.1 + 1, t.2 - 1) = 2 := by
    have := a.p3
    omega
  refine ⟨f2, n3, ?_⟩
  have := b.p4; have := b.v4; have := b.h4
  omega
theorem ray_sw (h : Two r X Y) : ∀ t, ¬ (t ∈ r ∧ X t = 1 ∧ X (t.1, t.2 - 1) = 4 ∧ (Y (t.1 + 1, t.2) = 1 ∨ Y (t.1 + 1, t.2) = 4)) := by
  refine no_ray (r := r) (fun t => t.2) fun t ⟨ht, x1, x2, y1⟩ => ⟨ht, (t.1 - 1, t.2 + 1), ?_, by show t.2 < t.2 + 1; omega⟩
  have hs : (t.1 + 1, t.2) ∈ r := by have := h.x.in_ t ht; rw [x1] at this; exact this
  have inn := h.inner ht (by
    have e1 := h.x.ac t ht hs
    have e2 := h.y.ac t ht hs
    omega)
  have a := h.x.nine ht inn
  have b := h.y.nine ht inn
  obtain ⟨_, _, i1, _, _, _, _, _⟩ := eight_in inn
  refine ⟨i1, ?_⟩
  simp only [Int.add_sub_cancel, Int.sub_add_cancel]
  have n3 : X (t.1 - 1, t.2) = 4 := by
    have := a.p1; have := a.h1; have := a.h3; have := a.v1
    omega
  have f2 : X (t.1 - 1, t.2 + 1) = 1 := by
    have := a.p2
    omega
  refine ⟨f2, n3, ?_⟩
  have := b.p4; have := b.v4; have := b.h4
  omega
theorem ray_sea (h : Two r X Y) : ∀ t, ¬ (t ∈ r ∧ X t = 4 ∧ X (t.1 - 1, t.2) = 3 ∧ (Y (t.1, t.2 - 1) = 3 ∨ Y (t.1, t.2 - 1) = 4)) := by
  refine no_ray (r := r) (fun t => t.1) fun t ⟨ht, x1, x2, y1⟩ => ⟨ht, (t.1 + 1, t.2 + 1), ?_, by show t.1 < t.1 + 1; omega⟩
  have hs : (t.1, t.2 - 1) ∈ r := by have := h.x.in_ t ht; rw [x1] at this; exact this
  have inn := h.inner ht (by
    have e1 : X (t.1, t.2 - 1) = 2 ↔ X t = 4 := by
      have e := h.x.dn _ hs (by simpa using ht)
      simp only [Int.sub_add_cancel] at e
      exact e
    have e2 : Y (t.1, t.2 - 1) = 2 ↔ Y t = 4 := by
      have e := h.y.dn _ hs (by simpa using ht)
      simp only [Int.sub_add_cancel] at e
      exact e
    omega)
  have a := h.x.nine ht inn
  have b := h.y.nine ht inn
  obtain ⟨_, _, _, _, _, _, _, i1⟩ := eight_in inn
  refine ⟨i1, ?_⟩
  simp only [Int.add_sub_cancel, Int.sub_add_cancel]
  have c1 : X (t.1 - 1, t.2 + 1) = 1 := by
    have := a.p2
    omega
  have n3 : X (t.1, t.2 + 1) = 3 := a.h5.mp c1
  have e2 : X (t.1 + 1, t.2) = 2 := by
    have := a.p4
    omega
  refine ⟨a.v6.mp e2, n3, ?_⟩
  have := b.p3; have := b.h4; have := b.v5
  omega
theorem ray_seb (h : Two r X Y) : ∀ t, ¬ (t ∈ r ∧ X t = 3 ∧ X (t.1, t.2 - 1) = 4 ∧ (Y (t.1 - 1, t.2) = 3 ∨ Y (t.1 - 1, t.2) = 4)) := by
  refine no_ray (r := r) (fun t => t.1) fun t ⟨ht, x1, x2, y1⟩ => ⟨ht, (t.1 + 1, t.2 + 1), ?_, by show t.1 < t.1 + 1; omega⟩
  have hs : (t.1 - 1, t.2) ∈ r := by have := h.x.in_ t ht; rw [x1] at this; exact this
  have inn := h.inner ht (by
    have e1 : X (t.1 - 1, t.2) = 1 ↔ X t = 3 := by
      have e := h.x.ac _ hs (by simpa using ht)
      simp only [Int.sub_add_cancel] at e
      exact e
    have e2 : Y (t.1 - 1, t.2) = 1 ↔ Y t = 3 := by
      have e := h.y.ac _ hs (by simpa using ht)
      simp only [Int.sub_add_cancel] at e
      exact e
    omega)
  have a := h.x.nine ht inn
  have b := h.y.nine ht inn
  obtain ⟨_, _, _, _, _, _, _, i1⟩ := eight_in inn
  refine ⟨i1, ?_⟩
  simp only [Int.add_sub_cancel, Int.sub_add_cancel]
  have c1 : X (t.1 + 1, t.2 - 1) = 2 := by
    have := a.p3
    omega
  have n3 : X (t.1 + 1, t.2) = 4 := a.v5.mp c1
  have e2 : X (t.1, t.2 + 1) = 1 := by
    have := a.p4
    omega
  refine ⟨a.h6.mp e2, n3, ?_⟩
  have := b.p2; have := b.h5; have := b.v4
  omega
/-- about an empty square: two ways -/
theorem wheel {a b c d t e f g h : Int} (q : Nine a b c d t e f g h) (z : t = 0) : (d = 3 ∧ f = 2 ∧ g = 4 ∧ e = 1 ∧ h = 3) ∨ (b = 4 ∧ c = 1 ∧ e = 3 ∧ g = 2 ∧ h = 4) := by
  have nb : b ≠ 1 := fun k => by have := q.h3.mp k; omega
  have nd : d ≠ 2 := fun k => by have := q.v3.mp k; omega
  rcases q.p1 with k | k | k | k
  · have d3 := q.h1.mp k
    have f2 : f = 2 := by have := q.p3; omega
    have g4 := q.v5.mp f2
    have e1 : e = 1 := by have := q.p4; omega
    exact .inl ⟨d3, f2, g4, e1, q.h6.mp e1⟩
  · have b4 := q.v1.mp k
    have c1 : c = 1 := by have := q.p2; omega
    have e3 := q.h5.mp c1
    have g2 : g = 2 := by have := q.p4; omega
    exact .inr ⟨b4, c1, e3, g2, q.v6.mp g2⟩
  · exact absurd k nb
  · exact absurd k nd
theorem start_01 (h : Two r X Y) {t : Pt} (inn : nearAll r (eight t) = true) (a : NineAt X t) (b : NineAt Y t) (x : X t = 0) (y : Y t = 1) : False := by
  obtain ⟨i1, i2, i3, i4, i5, i6, i7, i8⟩ := eight_in inn
  have q1 := ray_ne h (t.1 + 1, t.2 - 1)
  have q2 := ray_sea h (t.1 + 1, t.2 + 1)
  simp only [Int.add_sub_cancel, Int.sub_add_cancel, i6, i8, true_and] at q1 q2
  have g3 := b.h4.mp y
  rcases wheel a x with ⟨w1, w2, w3, w4, w5⟩ | ⟨w1, w2, w3, w4, w5⟩
  · exact q1 ⟨w2, w1, .inr g3⟩
  · exact q2 ⟨w5, w3, .inl g3⟩
theorem start_02 (h : Two r X Y) {t : Pt} (inn : nearAll r (eight t) = true) (a : NineAt X t) (b : NineAt Y t) (x : X t = 0) (y : Y t = 2) : False := by
  obtain ⟨i1, i2, i3, i4, i5, i6, i7, i8⟩ := eight_in inn
  have q1 := ray_sw h (t.1 - 1, t.2 + 1)
  have q2 := ray_seb h (t.1 + 1, t.2 + 1)
  simp only [Int.add_sub_cancel, Int.sub_add_cancel, i3, i8, true_and] at q1 q2
  have e4 := b.v4.mp y
  rcases wheel a x with ⟨w1, w2, w3, w4, w5⟩ | ⟨w1, w2, w3, w4, w5⟩
  · exact q2 ⟨w5, w3, .inr e4⟩
  · exact q1 ⟨w2, w1, .inr e4⟩
theorem start_12 (h : Two r X Y) {t : Pt} (inn : nearAll r (eight t) = true) (a : NineAt X t) (b : NineAt Y t) (x : X t = 1) (y : Y t = 2)
    (w : X (t.1 - 1, t.2) = Y (t.1 - 1, t.2)) (n : X (t.1, t.2 - 1) = Y (t.1, t.2 - 1)) : False := by
  obtain ⟨i1, i2, i3, i4, i5, i6, i7, i8⟩ := eight_in inn
  have q1 := ray_sw h (t.1 - 1, t.2 + 1)
  have q2 := ray_ne h.swap (t.1 + 1, t.2 - 1)
  simp only [Int.add_sub_cancel, Int.sub_add_cancel, i3, i6, true_and] at q1 q2
  have g3 := a.h4.mp x
  have e4 := b.v4.mp y
  have nb : X (t.1 - 1, t.2) ≠ 1 := fun k => by have := a.h3.mp k; omega
  have nd : X (t.1, t.2 - 1) ≠ 2 := fun k => by have := a.v3.mp k; omega
  rcases a.p1 with k | k | k | k
  · have d3 := a.h1.mp k
    have f2 : Y (t.1 + 1, t.2 - 1) = 2 := by have := b.p3; omega
    exact q2 ⟨f2, by omega, .inr g3⟩
  · have b4 := a.v1.mp k
    have c1 : X (t.1 - 1, t.2 + 1) = 1 := by have := a.p2; omega
    exact q1 ⟨c1, b4, .inr e4⟩
  · exact nb k
  · exact nd k
theorem ltP_nw (t : Pt) : ltP' (t.1 - 1, t.2 - 1) t ∧ ltP' (t.1 - 1, t.2) t ∧ ltP' (t.1, t.2 - 1) t := ⟨.inl (by show t.1 - 1 < t.1; omega), .inl (by show t.1 - 1 < t.1; omega), .inr ⟨rfl, by show t.2 - 1 < t.2; omega⟩⟩
/-- a border tells the floor -/
theorem Two.eq (h : Two r X Y) (asc : r.Pairwise ltP') : ∀ p ∈ r, X p = Y p := by
  have key : ∀ (n i : Nat) (p : Pt), i < n → r[i]? = some p → X p = Y p := by
    intro n
    induction n with
    | zero => intro i p hi; omega
    | succ n ih =>
      intro i p hi hp
      by_cases e : X p = Y p
      · exact e
      exfalso
      have hm : p ∈ r := List.mem_of_getElem? hp
      have inn := h.inner hm e
      have a := h.x.nine hm inn
      have b := h.y.nine hm inn
      have early : ∀ q ∈ r, ltP' q p → X q = Y q := fun q hq hl => by
        obtain ⟨j, hj⟩ := List.mem_iff_getElem?.mp hq
        refine ih j q ?_ hj
        have hi' := (List.getElem?_eq_some_iff.mp hp)
        have hj' := (List.getElem?_eq_some_iff.mp hj)
        have : ¬ i ≤ j := fun l => by
          rcases Nat.lt_or_eq_of_le l with l | l
          · have := List.pairwise_iff_getElem.mp asc i j hi'.1 hj'.1 l
            rw [hi'.2, hj'.2] at this
            rcases this with z | z <;> rcases hl with z' | z' <;> omega
          · subst l
            rw [hj] at hp
            cases hp
            rcases hl with z | z <;> omega
        omega
      obtain ⟨i1, i2, i3, i4, i5, i6, i7, i8⟩ := eight_in inn
      obtain ⟨l1, l2, l3⟩ := ltP_nw p
      have nw := early _ i1 l1
      have w := early _ i2 l2
      have nn := early _ i4 l3
      have xa := a.h3
      have xb := b.h3
      have va := a.v3
      have vb := b.v3
      rw [w] at xa
      rw [nn] at va
      rcases a.kt with k | k | k | k | k <;> rcases b.kt with k' | k' | k' | k' | k' <;> first
        | (exact absurd (k.trans k'.symm) e)
        | (exfalso; omega)
        | exact start_01 h inn a b k k'
        | exact start_01 h.swap inn b a k' k
        | exact start_02 h inn a b k k'
        | exact start_02 h.swap inn b a k' k
        | exact start_12 h inn a b k k' w nn
        | exact start_12 h.swap inn b a k' k w.symm nn.symm
  intro p hp
  obtain ⟨i, hi⟩ := List.mem_iff_getElem?.mp hp
  exact key (i + 1) i p (by omega) hi
end
end DL

set_option maxHeartbeats 4000000
/-! plain: the law's floors, square by square. -/
namespace DL
open PySem PySem.Spec PyProof.Rows L2 Evl

def near4 (p : Pt) : List Pt := [(p.1 - 1, p.2), (p.1, p.2 - 1), (p.1 - 1, p.2 - 1), (p.1 - 1, p.2 + 1)]
def sqAt (r : List Pt) (k : Nat) : Pt := r.getD k (0, 0)
def ndO (r : List Pt) (n : Pt) : Option Nat := if n ∈ r then some (r.idxOf n) else none
def ndL (r : List Pt) (p : Pt) : List (Option Nat) := (near4 p).map (ndO r)
def lastV (r : List Pt) : Nat → Nat → Option Nat
  | 0, _ => none
  | k + 1, j => if some j ∈ ndL r (sqAt r k) then some k else lastV r k j
def stays (r : List Pt) (k j : Nat) : Bool := match lastV r r.length j with
  | some m => decide (k < m)
  | none => false
def kepP (r : List Pt) : Nat → List Nat
  | 0 => []
  | k + 1 => (kepP r k ++ [k]).filter (stays r k)
def placesL (r : List Pt) (k : Nat) : List (Option Nat) := (ndL r (sqAt r k)).map (Option.map fun j => (kepP r k).idxOf j)
def movedL (r : List Pt) (k : Nat) : List Int := (kepP r (k + 1)).map fun j => if j = k then -1 else ((kepP r k).idxOf j : Int)
def cmpK (k : Int) : Int := if k < 3 then k else 0
/-- what is kept of a row of kinds -/
def stF (r : List Pt) (k : Nat) (row : List Int) : List Int := (kepP r k).map fun j => cmpK (row.getD j 0)
def nearV (r : List Pt) (k : Nat) (row : List Int) : List (Option Int) := (ndL r (sqAt r k)).map (Option.map fun j => cmpK (row.getD j 0))
/-- kinds that a square can have by what lies near -/
def nextK (near : List (Option Int)) (e s : Bool) : List Int := match near with
  | [w, n, c, b] =>
    if w = some 1 ∧ n = some 2 then [] else
    if w = some 1 ∨ n = some 2 then [if w = some 1 then 3 else 4] else
    if (w ≠ none ∧ n ≠ none ∧ c ≠ none) ∧ ¬ (c = some 1 ∨ c = some 2) then [] else
    [0] ++ (if e then [1] else []) ++ (if s && decide (b ≠ some 1) then [2] else [])
  | _ => []
def eastB (r : List Pt) (p : Pt) : Bool := decide (led p 1 ∈ r)
def southB (r : List Pt) (p : Pt) : Bool := decide (led p 2 ∈ r)
def nextOf (r : List Pt) (k : Nat) (row : List Int) : List Int := nextK (nearV r k row) (eastB r (sqAt r k)) (southB r (sqAt r k))
def nextIn (r : List Pt) (L : Lf) (k : Nat) (row : List Int) : List Int := (nextOf r k row).filter fun x => decide (x ∈ L (sqAt r k))
def rowsK (r : List Pt) (L : Lf) : Nat → List (List Int)
  | 0 => [[]]
  | k + 1 => (rowsK r L k).flatMap fun row => (nextIn r L k row).map fun x => row ++ [x]

theorem nextK_len (near : List (Option Int)) (e s : Bool) : (nextK near e s).length ≤ 3 := by
  unfold nextK
  split
  · split
    · simp
    · split
      · simp
      · split
        · simp
        · have : ∀ (u v : Bool), ([0] ++ (if u then [1] else []) ++ (if v then [2] else []) : List Int).length ≤ 3 := by decide
          exact this _ _
  · simp
theorem nextK_kinds {near : List (Option Int)} {e s : Bool} {x : Int} (h : x ∈ nextK near e s) : x ∈ kindsL := by
  unfold nextK at h
  split at h
  · split at h
    · cases h
    · split at h
      · split at h <;> (rw [List.mem_singleton] at h; subst h; simp [kindsL])
      · split at h
        · cases h
        · simp only [List.mem_append, List.mem_singleton] at h
          rcases h with (h | h) | h
          · subst h; simp [kindsL]
          · cases e <;> simp at h
            subst h; simp [kindsL]
          · split at h <;> simp at h
            subst h; simp [kindsL]
  · cases h
theorem nextK_nodup (near : List (Option Int)) (e s : Bool) : (nextK near e s).Nodup := by
  unfold nextK
  split
  · split
    · simp
    · split
      · simp
      · split
        · simp
        · have : ∀ (u v : Bool), ([0] ++ (if u then [1] else []) ++ (if v then [2] else []) : List Int).Nodup := by decide
          exact this _ _
  · simp
theorem ndL_len (r : List Pt) (p : Pt) : (ndL r p).length = 4 := by simp [ndL, near4]
section
variable {r : List Pt}
theorem stays_iff {k j : Nat} : stays r k j = true ↔ ∃ m, lastV r r.length j = some m ∧ k < m := by
  unfold stays
  cases lastV r r.length j <;> simp
theorem mem_kept {k j : Nat} : j ∈ kepP r k ↔ j < k ∧ ∃ m, lastV r r.length j = some m ∧ k ≤ m := by
  induction k with
  | zero => simp [kepP]
  | succ k ih =>
    simp only [kepP, List.mem_filter, List.mem_append, List.mem_singleton, ih, stays_iff]
    constructor
    · rintro ⟨h | h, m, e, l⟩
      · exact ⟨by omega, m, e, l⟩
      · exact ⟨by omega, m, e, l⟩
    · rintro ⟨h, m, e, l⟩
      refine ⟨?_, m, e, l⟩
      rcases Nat.lt_or_eq_of_le (Nat.le_of_lt_succ h) with z | z
      · exact .inl ⟨z, m, e, by omega⟩
      · exact .inr z
theorem kept_len : ∀ k, (kepP r k).length ≤ k
  | 0 => by simp [kepP]
  | k + 1 => by
    have := kept_len k
    simp only [kepP]
    refine Nat.le_trans (List.length_filter_le _ _) ?_
    rw [List.length_append, List.length_singleton]
    omega
theorem kept_nodup : ∀ k, (kepP r k).Nodup
  | 0 => by simp [kepP]
  | k + 1 => by
    simp only [kepP]
    refine List.Nodup.sublist List.filter_sublist ?_
    rw [List.nodup_append]
    refine ⟨kept_nodup k, by simp, fun a ha b hb e => ?_⟩
    have := (mem_kept.mp ha).1
    rw [List.mem_singleton] at hb
    omega
theorem lastV_lt : ∀ {i j m : Nat}, lastV r i j = some m → m < i
  | 0, _, _, h => by simp [lastV] at h
  | i + 1, j, m, h => by
    simp only [lastV] at h
    split at h
    · cases h; omega
    · have := lastV_lt h; omega
theorem kept_end : kepP r r.length = [] := by
  rw [List.eq_nil_iff_forall_not_mem]
  intro j h
  obtain ⟨_, m, e, l⟩ := mem_kept.mp h
  have := lastV_lt e
  omega
theorem lastV_ge {j k : Nat} (h : some j ∈ ndL r (sqAt r k)) : ∀ {i : Nat}, k < i → ∃ m, lastV r i j = some m ∧ k ≤ m
  | 0, l => by omega
  | i + 1, l => by
    simp only [lastV]
    by_cases e : some j ∈ ndL r (sqAt r i)
    · rw [if_pos e]; exact ⟨i, rfl, by omega⟩
    · rw [if_neg e]
      refine lastV_ge h ?_
      rcases Nat.lt_or_eq_of_le (Nat.le_of_lt_succ l) with z | z
      · exact z
      · subst z; exact absurd h e
theorem ltP_irr {p q : Pt} (h : ltP' p q) : ¬ ltP' q p := fun g => by
  rcases h with h | h <;> rcases g with g | g <;> omega
theorem idx_lt (asc : r.Pairwise ltP') {p q : Pt} (hp : p ∈ r) (hq : q ∈ r) (h : ltP' p q) : r.idxOf p < r.idxOf q := by
  have h1 := List.idxOf_lt_length_iff.mpr hp
  have h2 := List.idxOf_lt_length_iff.mpr hq
  rcases Nat.lt_trichotomy (r.idxOf p) (r.idxOf q) with z | z | z
  · exact z
  · have e1 := List.getElem_idxOf h1
    have e2 := List.getElem_idxOf h2
    have : p = q := by rw [← e1, ← e2]; congr 1
    subst this
    exact absurd h (ltP_irr h)
  · have := List.pairwise_iff_getElem.mp asc _ _ h2 h1 z
    rw [List.getElem_idxOf h1, List.getElem_idxOf h2] at this
    exact absurd this (ltP_irr h)
theorem near_lt {p n : Pt} (h : n ∈ near4 p) : ltP' n p := by
  simp only [near4, List.mem_cons, List.not_mem_nil, or_false] at h
  rcases h with rfl | rfl | rfl | rfl
  · exact .inl (by show p.1 - 1 < p.1; omega)
  · exact .inr ⟨rfl, by show p.2 - 1 < p.2; omega⟩
  · exact .inl (by show p.1 - 1 < p.1; omega)
  · exact .inl (by show p.1 - 1 < p.1; omega)
theorem sqAt_mem {k : Nat} (hk : k < r.length) : sqAt r k ∈ r := by
  unfold sqAt
  rw [List.getD_eq_getElem?_getD, List.getElem?_eq_getElem hk]
  exact List.getElem_mem hk
theorem sqAt_get {k : Nat} {s : Pt} (h : r[k]? = some s) : sqAt r k = s := by
  unfold sqAt
  rw [List.getD_eq_getElem?_getD, h]; rfl
theorem get_nodup {i j : Nat} (nd : r.Nodup) {s : Pt} (h1 : r[i]? = some s) (h2 : r[j]? = some s) : i = j := by
  obtain ⟨l1, e1⟩ := List.getElem?_eq_some_iff.mp h1
  obtain ⟨l2, e2⟩ := List.getElem?_eq_some_iff.mp h2
  exact (List.getElem_inj nd).mp (e1.trans e2.symm)
theorem idx_at (nd : r.Nodup) {k : Nat} {s : Pt} (h : r[k]? = some s) : r.idxOf s = k := by
  have hm := List.mem_of_getElem? h
  have hl := List.idxOf_lt_length_iff.mpr hm
  exact get_nodup nd (by rw [List.getElem?_eq_getElem hl, List.getElem_idxOf]) h
theorem idx_sqAt (nd : r.Nodup) {k : Nat} (hk : k < r.length) : r.idxOf (sqAt r k) = k :=
  idx_at nd (by unfold sqAt; rw [List.getD_eq_getElem?_getD, List.getElem?_eq_getElem hk]; rfl)
theorem sqAt_idx {s : Pt} (hs : s ∈ r) : sqAt r (r.idxOf s) = s := by
  have hl := List.idxOf_lt_length_iff.mpr hs
  exact sqAt_get (by rw [List.getElem?_eq_getElem hl, List.getElem_idxOf])
theorem need_lt (asc : r.Pairwise ltP') (nd : r.Nodup) {k j : Nat} (hk : k < r.length) (h : some j ∈ ndL r (sqAt r k)) : j < k := by
  unfold ndL at h
  obtain ⟨n, hn, e⟩ := List.mem_map.mp h
  unfold ndO at e
  split at e
  · rename_i hr
    cases e
    have := idx_lt asc hr (sqAt_mem hk) (near_lt hn)
    rwa [idx_sqAt nd hk] at this
  · cases e
theorem need_kept (asc : r.Pairwise ltP') (nd : r.Nodup) {k j : Nat} (hk : k < r.length) (h : some j ∈ ndL r (sqAt r k)) : j ∈ kepP r k :=
  mem_kept.mpr ⟨need_lt asc nd hk h, lastV_ge h hk⟩
theorem getD_idx {l : List Nat} {j : Nat} (h : j ∈ l) (f : Nat → Int) : (l.map f).getD (l.idxOf j) 0 = f j := by
  have hl := List.idxOf_lt_length_iff.mpr h
  rw [List.getD_eq_getElem?_getD, List.getElem?_map, List.getElem?_eq_getElem hl, List.getElem_idxOf]
  rfl
theorem places_near (asc : r.Pairwise ltP') (nd : r.Nodup) {k : Nat} (hk : k < r.length) (row : List Int) :
    (placesL r k).map (Option.map fun i => (stF r k row).getD i 0) = nearV r k row := by
  unfold placesL nearV
  rw [List.map_map]
  refine List.map_congr_left fun o ho => ?_
  cases o with
  | none => rfl
  | some j => exact congrArg some (getD_idx (need_kept asc nd hk ho) _)
theorem places_lt (asc : r.Pairwise ltP') (nd : r.Nodup) {k : Nat} (hk : k < r.length) {i : Nat} (h : some i ∈ placesL r k) : i < (kepP r k).length := by
  unfold placesL at h
  obtain ⟨o, ho, e⟩ := List.mem_map.mp h
  cases o with
  | none => cases e
  | some j =>
    cases e
    exact List.idxOf_lt_length_iff.mpr (need_kept asc nd hk ho)
/-- what is kept behind a square -/
def nextSt (r : List Pt) (k : Nat) (st : List Int) (x : Int) : List Int := (movedL r k).map fun m => if m = -1 then cmpK x else st.getD m.toNat 0
theorem st_next {k : Nat} {row : List Int} (hl : row.length = k) (x : Int) : stF r (k + 1) (row ++ [x]) = nextSt r k (stF r k row) x := by
  unfold nextSt movedL
  rw [List.map_map]
  unfold stF
  refine List.map_congr_left fun j hj => ?_
  have h1 := (mem_kept.mp hj).1
  simp only [Function.comp]
  by_cases e : j = k
  · subst e
    rw [if_pos rfl, if_pos rfl, List.getD_eq_getElem?_getD, List.getElem?_append_right (by omega), hl, Nat.sub_self]
    rfl
  · rw [if_neg e]
    have hk : j ∈ kepP r k := by
      simp only [kepP, List.mem_filter, List.mem_append, List.mem_singleton] at hj
      rcases hj.1 with z | z
      · exact z
      · exact absurd z e
    rw [if_neg (by omega), Int.toNat_natCast, getD_idx hk, List.getD_eq_getElem?_getD, List.getD_eq_getElem?_getD, List.getElem?_append_left (by omega)]
theorem moved_ok {k : Nat} {m : Int} (h : m ∈ movedL r k) : m = -1 ∨ 0 ≤ m ∧ m.toNat < (kepP r k).length := by
  unfold movedL at h
  obtain ⟨j, hj, rfl⟩ := List.mem_map.mp h
  by_cases e : j = k
  · rw [if_pos e]; exact .inl rfl
  · rw [if_neg e]
    refine .inr ⟨by omega, ?_⟩
    simp only [kepP, List.mem_filter, List.mem_append, List.mem_singleton] at hj
    rw [Int.toNat_natCast]
    rcases hj.1 with z | z
    · exact List.idxOf_lt_length_iff.mpr z
    · exact absurd z e
/-! ### rows -/
variable {L : Lf}
theorem rows_len : ∀ {k : Nat} {row : List Int}, row ∈ rowsK r L k → row.length = k
  | 0, row, h => by simp only [rowsK, List.mem_singleton] at h; subst h; rfl
  | k + 1, row, h => by
    simp only [rowsK, List.mem_flatMap, List.mem_map] at h
    obtain ⟨a, ha, x, _, rfl⟩ := h
    rw [List.length_append, rows_len ha]; rfl
theorem rows_many : ∀ k, (rowsK r L k).length ≤ 3 ^ k
  | 0 => by simp [rowsK]
  | k + 1 => by
    simp only [rowsK]
    have := flat_len2 (fun row => (nextIn r L k row).map fun x => row ++ [x]) 3 _ (rowsK r L k) (fun row => by
      rw [List.length_map]; exact filter_len _ _ _ (nextK_len _ _ _)) (rows_many k)
    rw [Nat.pow_succ]; omega
theorem rows_nodup : ∀ k, (rowsK r L k).Nodup
  | 0 => by simp [rowsK]
  | k + 1 => by
    simp only [rowsK]
    unfold List.Nodup
    rw [List.pairwise_flatMap]
    refine ⟨fun row _ => ?_, ?_⟩
    · have : (nextIn r L k row).Nodup := List.Nodup.sublist List.filter_sublist (nextK_nodup _ _ _)
      exact List.Pairwise.map _ (fun a b ne e => ne (by simpa using e)) this
    · refine List.Pairwise.imp (fun {a b} ne x hx y hy e => ?_) (rows_nodup k)
      obtain ⟨u, _, rfl⟩ := List.mem_map.mp hx
      obtain ⟨v, _, rfl⟩ := List.mem_map.mp hy
      exact ne (List.append_inj' e rfl).1
theorem mem_rows_succ {k : Nat} {row : List Int} {x : Int} : row ++ [x] ∈ rowsK r L (k + 1) ↔ row ∈ rowsK r L k ∧ x ∈ nextIn r L k row := by
  simp only [rowsK, List.mem_flatMap, List.mem_map]
  constructor
  · rintro ⟨a, ha, y, hy, e⟩
    obtain ⟨rfl, e2⟩ := List.append_inj' e rfl
    cases e2
    exact ⟨ha, hy⟩
  · rintro ⟨h1, h2⟩
    exact ⟨row, h1, x, h2, rfl⟩
/-- near a square of a whole floor -/
def nearF (r : List Pt) (F : Pt → Int) (p : Pt) : List (Option Int) := (near4 p).map fun n => if n ∈ r then some (cmpK (F n)) else none
def LocOk (r : List Pt) (F : Pt → Int) (p : Pt) : Prop := F p ∈ nextK (nearF r F p) (eastB r p) (southB r p)
theorem near_take (asc : r.Pairwise ltP') (nd : r.Nodup) (F : Pt → Int) {k : Nat} (hk : k < r.length) : nearV r k ((r.map F).take k) = nearF r F (sqAt r k) := by
  unfold nearV nearF ndL
  rw [List.map_map]
  refine List.map_congr_left fun n hn => ?_
  simp only [Function.comp, ndO]
  by_cases h : n ∈ r
  · rw [if_pos h, if_pos h]
    have hi := idx_lt asc h (sqAt_mem hk) (near_lt hn)
    rw [idx_sqAt nd hk] at hi
    have hl := List.idxOf_lt_length_iff.mpr h
    simp only [Option.map_some]
    rw [List.getD_eq_getElem?_getD, List.getElem?_take_of_lt hi, List.getElem?_map, List.getElem?_eq_getElem hl, List.getElem_idxOf]
    rfl
  · rw [if_neg h, if_neg h]; rfl
theorem rows_take (asc : r.Pairwise ltP') (nd : r.Nodup) (F : Pt → Int) : ∀ {k : Nat}, k ≤ r.length → ((r.map F).take k ∈ rowsK r L k ↔ ∀ j, j < k → LocOk r F (sqAt r j) ∧ F (sqAt r j) ∈ L (sqAt r j))
  | 0, _ => by simp [rowsK]
  | k + 1, hk => by
    have e : (r.map F).take (k + 1) = (r.map F).take k ++ [F (sqAt r k)] := by
      rw [List.take_succ, List.getElem?_map]
      unfold sqAt
      rw [List.getD_eq_getElem?_getD, List.getElem?_eq_getElem (by omega)]
      rfl
    rw [e, mem_rows_succ, rows_take asc nd F (by omega)]
    unfold nextIn nextOf
    rw [near_take asc nd F (by omega), List.mem_filter, decide_eq_true_eq]
    constructor
    · rintro ⟨h1, h2, h3⟩ j hj
      rcases Nat.lt_or_eq_of_le (Nat.le_of_lt_succ hj) with z | z
      · exact h1 j z
      · subst z; exact ⟨h2, h3⟩
    · intro h
      exact ⟨fun j hj => h j (by omega), (h k (by omega)).1, (h k (by omega)).2⟩
theorem row_fun (nd : r.Nodup) {row : List Int} (hl : row.length = r.length) : r.map (fun s => row.getD (r.idxOf s) 0) = row := by
  apply List.ext_getElem?
  intro i
  rw [List.getElem?_map]
  by_cases hi : i < r.length
  · rw [List.getElem?_eq_getElem hi, List.getElem?_eq_getElem (by omega)]
    simp only [Option.map_some]
    rw [idx_at nd (List.getElem?_eq_getElem hi), List.getD_eq_getElem?_getD, List.getElem?_eq_getElem (by omega)]
    rfl
  · rw [List.getElem?_eq_none (by omega), List.getElem?_eq_none (by omega)]; rfl
/-! ### square by square -/
theorem cmp1 {k : Int} : cmpK k = 1 ↔ k = 1 := by unfold cmpK; split <;> omega
theorem cmp2 {k : Int} : cmpK k = 2 ↔ k = 2 := by unfold cmpK; split <;> omega
theorem nextK_eq (w n c b : Option Int) (e s : Bool) : nextK [w, n, c, b] e s = if w = some 1 ∧ n = some 2 then [] else
    if w = some 1 ∨ n = some 2 then [if w = some 1 then 3 else 4] else
    if (w ≠ none ∧ n ≠ none ∧ c ≠ none) ∧ ¬ (c = some 1 ∨ c = some 2) then [] else
    [0] ++ (if e then [1] else []) ++ (if s && decide (b ≠ some 1) then [2] else []) := rfl
theorem mem_nextK {w n c b : Option Int} {e s : Bool} {x : Int} : x ∈ nextK [w, n, c, b] e s ↔
    (¬ (w = some 1 ∧ n = some 2)) ∧ ((w = some 1 ∧ x = 3) ∨ (w ≠ some 1 ∧ n = some 2 ∧ x = 4) ∨ (w ≠ some 1 ∧ n ≠ some 2 ∧ (w ≠ none → n ≠ none → c ≠ none → c = some 1 ∨ c = some 2) ∧ (x = 0 ∨ (x = 1 ∧ e = true) ∨ (x = 2 ∧ s = true ∧ b ≠ some 1)))) := by
  rw [nextK_eq]
  by_cases h1 : w = some 1
  · by_cases h2 : n = some 2
    · simp [h1, h2]
    · simp [h1, h2]
  · by_cases h2 : n = some 2
    · simp [h1, h2]
    · by_cases h3 : (w ≠ none ∧ n ≠ none ∧ c ≠ none) ∧ ¬ (c = some 1 ∨ c = some 2)
      · rw [if_neg (by simp [h1]), if_neg (by simp [h1, h2]), if_pos h3]
        constructor
        · intro h; cases h
        · rintro ⟨_, ⟨h, _⟩ | ⟨_, h, _⟩ | ⟨_, _, h, _⟩⟩
          · exact absurd h h1
          · exact absurd h h2
          · exact absurd (h h3.1.1 h3.1.2.1 h3.1.2.2) h3.2
      · rw [if_neg (by simp [h1]), if_neg (by simp [h1, h2]), if_neg h3]
        have h4 : w ≠ none → n ≠ none → c ≠ none → c = some 1 ∨ c = some 2 := fun a b d => Classical.byContradiction fun z => h3 ⟨⟨a, b, d⟩, z⟩
        have h5 : ∀ x, x ∈ (if e = true then [(1 : Int)] else []) ↔ x = 1 ∧ e = true := fun x => by cases e <;> simp
        have h6 : ∀ x, x ∈ (if (s && decide (b ≠ some 1)) = true then [(2 : Int)] else []) ↔ x = 2 ∧ s = true ∧ b ≠ some 1 := fun x => by
          by_cases z : b = some 1
          · simp [z]
          · cases s <;> simp [z]
        rw [List.mem_append, List.mem_append, h5, h6, List.mem_singleton]
        constructor
        · intro h
          refine ⟨fun z => h1 z.1, .inr (.inr ⟨h1, h2, h4, ?_⟩)⟩
          rcases h with (h | h) | h
          · exact .inl h
          · exact .inr (.inl h)
          · exact .inr (.inr h)
        · rintro ⟨_, ⟨h, _⟩ | ⟨_, h, _⟩ | ⟨_, _, _, h⟩⟩
          · exact absurd h h1
          · exact absurd h h2
          · rcases h with h | h | h
            · exact .inl (.inl h)
            · exact .inl (.inr h)
            · exact .inr h
theorem nr1 {F : Pt → Int} {q : Pt} : (if q ∈ r then some (cmpK (F q)) else none) = some 1 ↔ q ∈ r ∧ F q = 1 := by
  by_cases h : q ∈ r <;> simp [h, cmp1]
theorem nr2 {F : Pt → Int} {q : Pt} : (if q ∈ r then some (cmpK (F q)) else none) = some 2 ↔ q ∈ r ∧ F q = 2 := by
  by_cases h : q ∈ r <;> simp [h, cmp2]
theorem nr0 {F : Pt → Int} {q : Pt} : (if q ∈ r then some (cmpK (F q)) else none) ≠ none ↔ q ∈ r := by
  by_cases h : q ∈ r <;> simp [h]
theorem loc_iff {F : Pt → Int} {p : Pt} : LocOk r F p ↔ ¬ (((p.1 - 1, p.2) ∈ r ∧ F (p.1 - 1, p.2) = 1) ∧ ((p.1, p.2 - 1) ∈ r ∧ F (p.1, p.2 - 1) = 2)) ∧
    ((((p.1 - 1, p.2) ∈ r ∧ F (p.1 - 1, p.2) = 1) ∧ F p = 3) ∨ (¬ ((p.1 - 1, p.2) ∈ r ∧ F (p.1 - 1, p.2) = 1) ∧ ((p.1, p.2 - 1) ∈ r ∧ F (p.1, p.2 - 1) = 2) ∧ F p = 4) ∨
     (¬ ((p.1 - 1, p.2) ∈ r ∧ F (p.1 - 1, p.2) = 1) ∧ ¬ ((p.1, p.2 - 1) ∈ r ∧ F (p.1, p.2 - 1) = 2) ∧
      ((p.1 - 1, p.2) ∈ r → (p.1, p.2 - 1) ∈ r → (p.1 - 1, p.2 - 1) ∈ r → ((p.1 - 1, p.2 - 1) ∈ r ∧ F (p.1 - 1, p.2 - 1) = 1) ∨ ((p.1 - 1, p.2 - 1) ∈ r ∧ F (p.1 - 1, p.2 - 1) = 2)) ∧
      (F p = 0 ∨ (F p = 1 ∧ (p.1 + 1, p.2) ∈ r) ∨ (F p = 2 ∧ (p.1, p.2 + 1) ∈ r ∧ ¬ ((p.1 - 1, p.2 + 1) ∈ r ∧ F (p.1 - 1, p.2 + 1) = 1))))) := by
  unfold LocOk nearF near4 eastB southB
  simp only [List.map_cons, List.map_nil]
  rw [mem_nextK]
  simp only [ne_eq, nr1, nr2, decide_eq_true_eq]
  have z : ∀ q : Pt, ¬ ((if q ∈ r then some (cmpK (F q)) else none) = none) ↔ q ∈ r := fun q => nr0
  simp only [z]
  exact Iff.rfl
theorem fl_loc {F : Pt → Int} : FlP r F ↔ ∀ p ∈ r, LocOk r F p := by
  constructor
  · intro h p hp
    rw [loc_iff]
    have w : ((p.1 - 1, p.2) ∈ r ∧ F (p.1 - 1, p.2) = 1) ↔ F p = 3 := by
      constructor
      · rintro ⟨h1, h2⟩
        have := (h.ac _ h1 (by simpa using hp)).mp h2
        simpa using this
      · intro e
        have h1 := h.in_ p hp
        rw [e] at h1
        refine ⟨h1, (h.ac _ h1 (by simpa [led] using hp)).mpr ?_⟩
        simpa [led] using e
    have n : ((p.1, p.2 - 1) ∈ r ∧ F (p.1, p.2 - 1) = 2) ↔ F p = 4 := by
      constructor
      · rintro ⟨h1, h2⟩
        have := (h.dn _ h1 (by simpa using hp)).mp h2
        simpa using this
      · intro e
        have h1 := h.in_ p hp
        rw [e] at h1
        refine ⟨h1, (h.dn _ h1 (by simpa [led] using hp)).mpr ?_⟩
        simpa [led] using e
    rw [w, n]
    refine ⟨by omega, ?_⟩
    rcases kind_cases (h.k p hp) with e | e | e | e | e
    · refine .inr (.inr ⟨by omega, by omega, fun h1 h2 h3 => ?_, .inl e⟩)
      have h1' : ¬ F (p.1 - 1, p.2) = 1 := fun z => by have := w.mp ⟨h1, z⟩; omega
      have h2' : ¬ F (p.1, p.2 - 1) = 2 := fun z => by have := n.mp ⟨h2, z⟩; omega
      rcases h.pt p hp h3 h1 h2 with z | z | z | z
      · exact .inl ⟨h3, z⟩
      · exact .inr ⟨h3, z⟩
      · exact absurd z (h1' )
      · exact absurd z (h2')
    · refine .inr (.inr ⟨by omega, by omega, fun h1 h2 h3 => ?_, .inr (.inl ⟨e, ?_⟩)⟩)
      · have h1' : ¬ F (p.1 - 1, p.2) = 1 := fun z => by have := w.mp ⟨h1, z⟩; omega
        have h2' : ¬ F (p.1, p.2 - 1) = 2 := fun z => by have := n.mp ⟨h2, z⟩; omega
        rcases h.pt p hp h3 h1 h2 with z | z | z | z
        · exact .inl ⟨h3, z⟩
        · exact .inr ⟨h3, z⟩
        · exact absurd z (h1' )
        · exact absurd z (h2')
      · have := h.in_ p hp; rw [e] at this; exact this
    · refine .inr (.inr ⟨by omega, by omega, fun h1 h2 h3 => ?_, .inr (.inr ⟨e, ?_, ?_⟩)⟩)
      · have h1' : ¬ F (p.1 - 1, p.2) = 1 := fun z => by have := w.mp ⟨h1, z⟩; omega
        have h2' : ¬ F (p.1, p.2 - 1) = 2 := fun z => by have := n.mp ⟨h2, z⟩; omega
        rcases h.pt p hp h3 h1 h2 with z | z | z | z
        · exact .inl ⟨h3, z⟩
        · exact .inr ⟨h3, z⟩
        · exact absurd z (h1' )
        · exact absurd z (h2')
      · have := h.in_ p hp; rw [e] at this; exact this
      · rintro ⟨h1, h2⟩
        have hs : (p.1, p.2 + 1) ∈ r := by have := h.in_ p hp; rw [e] at this; exact this
        have a := (h.ac _ h1 (by simpa using hs)).mp h2
        simp only [Int.sub_add_cancel] at a
        have b := (h.dn p hp hs).mp e
        omega
    · exact .inl ⟨e, e⟩
    · exact .inr (.inl ⟨by omega, e, e⟩)
  · intro h
    have q : ∀ p ∈ r, _ := fun p hp => loc_iff.mp (h p hp)
    have kd : ∀ p ∈ r, F p ∈ kindsL := fun p hp => nextK_kinds (h p hp)
    refine ⟨kd, fun p hp => ?_, fun p hp he => ?_, fun p hp hs => ?_, fun p hp h1 h2 h3 => ?_⟩
    · rcases (q p hp).2 with ⟨⟨a, _⟩, e⟩ | ⟨_, ⟨a, _⟩, e⟩ | ⟨_, _, _, e | ⟨e, a⟩ | ⟨e, a, _⟩⟩
      · rw [e]; exact a
      · rw [e]; exact a
      · rw [e]; exact hp
      · rw [e]; exact a
      · rw [e]; exact a
    · have z := (q _ he).2
      simp only [Int.add_sub_cancel] at z
      have e1 : (p.1, p.2) = p := rfl
      rw [e1] at z
      rcases z with ⟨⟨_, a⟩, e⟩ | ⟨a, _, e⟩ | ⟨a, _, _, e⟩
      · exact ⟨fun _ => e, fun _ => a⟩
      · refine ⟨fun k => absurd ⟨hp, k⟩ a, fun k => by omega⟩
      · refine ⟨fun k => absurd ⟨hp, k⟩ a, fun k => by omega⟩
    · have z := q _ hs
      simp only [Int.add_sub_cancel] at z
      have e1 : (p.1, p.2) = p := rfl
      rw [e1] at z
      obtain ⟨z0, z⟩ := z
      rcases z with ⟨a, e⟩ | ⟨_, ⟨_, a⟩, e⟩ | ⟨_, a, _, e⟩
      · refine ⟨fun k => absurd ⟨a, hp, k⟩ z0, fun k => by omega⟩
      · exact ⟨fun _ => e, fun _ => a⟩
      · refine ⟨fun k => absurd ⟨hp, k⟩ a, fun k => by omega⟩
    · rcases (q p hp).2 with ⟨⟨_, a⟩, _⟩ | ⟨_, ⟨_, a⟩, _⟩ | ⟨_, _, a, _⟩
      · exact .inr (.inr (.inl a))
      · exact .inr (.inr (.inr a))
      · rcases a h2 h3 h1 with ⟨_, z⟩ | ⟨_, z⟩
        · exact .inl z
        · exact .inr (.inl z)
/-- the rows are the floors that keep what is let -/
theorem rows_fl (asc : r.Pairwise ltP') (nd : r.Nodup) (F : Pt → Int) : r.map F ∈ rowsK r L r.length ↔ IsFl r L F := by
  have h := rows_take (L := L) asc nd F (Nat.le_refl r.length)
  rw [List.take_of_length_le (by simp)] at h
  rw [h, isFl_iff, fl_loc]
  constructor
  · intro g
    have g' : ∀ s ∈ r, LocOk r F s ∧ F s ∈ L s := fun s hs => by
      have := g (r.idxOf s) (List.idxOf_lt_length_iff.mpr hs)
      rwa [sqAt_idx hs] at this
    exact ⟨fun s hs => (g' s hs).2, fun s hs => (g' s hs).1⟩
  · rintro ⟨h1, h2⟩ j hj
    exact ⟨h2 _ (sqAt_mem hj), h1 _ (sqAt_mem hj)⟩
theorem rows_all (asc : r.Pairwise ltP') (nd : r.Nodup) {row : List Int} (h : row ∈ rowsK r L r.length) : ∃ F, row = r.map F ∧ IsFl r L F := by
  refine ⟨fun s => row.getD (r.idxOf s) 0, (row_fun nd (rows_len h)).symm, ?_⟩
  rw [← rows_fl asc nd, row_fun nd (rows_len h)]
  exact h
/-- each border of at most one floor -/
theorem rows_one (asc : r.Pairwise ltP') (nd : r.Nodup) (bs : List Int) (hb : bs.length = (rimL r).length) : (rowsK r (letF (letsB r bs)) r.length).length ≤ 1 := by
  have all : ∀ a ∈ rowsK r (letF (letsB r bs)) r.length, ∀ b ∈ rowsK r (letF (letsB r bs)) r.length, a = b := by
    intro a ha b hb'
    obtain ⟨F, rfl, hF⟩ := rows_all asc nd ha
    obtain ⟨G, rfl, hG⟩ := rows_all asc nd hb'
    have hF' := isFl_iff.mp hF
    have hG' := isFl_iff.mp hG
    refine List.map_congr_left fun p hp => ?_
    refine Two.eq ⟨hF'.2, hG'.2, fun s hs e => ?_⟩ asc p hp
    have hm : s ∈ rimL r := by unfold rimL; rw [List.mem_filter, e]; exact ⟨hs, rfl⟩
    have : ∃ x, letF (letsB r bs) s = [x] := by
      unfold letF toldF
      have hk : s ∈ ((letsB r bs).reverse.map (·.1)) := by
        rw [List.map_reverse, List.mem_reverse]
        unfold letsB
        rw [List.map_map]
        have : ((fun x : Pt × List Int => x.1) ∘ fun x : Pt × Int => (x.1, [x.2])) = Prod.fst := rfl
        rw [this, List.map_fst_zip (by omega)]
        exact hm
      have h3 : ∃ ks, (letsB r bs).reverse.lookup s = some ks := by
        generalize (letsB r bs).reverse = l at hk
        induction l with
        | nil => cases hk
        | cons a l ih =>
          by_cases e : s = a.1
          · exact ⟨a.2, by simp [List.lookup, e]⟩
          · have e2 : (s == a.1) = false := by simpa using e
            simp only [List.lookup, e2]
            rcases List.mem_cons.mp hk with z | z
            · exact absurd z e
            · exact ih z
      obtain ⟨ks, hks⟩ := h3
      have hm2 := List.mem_reverse.mp (lookup_mem hks)
      unfold letsB at hm2
      obtain ⟨x, _, ex⟩ := List.mem_map.mp hm2
      rw [hks]
      injection ex with _ ex2
      exact ⟨x.2, ex2.symm⟩
    obtain ⟨x, hx⟩ := this
    have h1 := hF'.1 s hs
    have h2 := hG'.1 s hs
    rw [hx, List.mem_singleton] at h1 h2
    rw [h1, h2]
  have nd2 := rows_nodup (r := r) (L := letF (letsB r bs)) r.length
  generalize rowsK r (letF (letsB r bs)) r.length = l at all nd2
  match l with
  | [] => simp
  | [_] => simp
  | a :: b :: l =>
    have := all a (by simp) b (by simp)
    subst this
    simp at nd2
/-! ### some floor -/
def coursesF (r : List Pt) (p : Pt) : Int := if (p.1 + p.2) % 2 = 0 then (if (p.1 + 1, p.2) ∈ r then 1 else 0) else (if (p.1 - 1, p.2) ∈ r then 3 else 0)
theorem courses_fl : FlP r (coursesF r) := by
  refine ⟨fun p hp => ?_, fun p hp => ?_, fun p hp he => ?_, fun p hp hs => ?_, fun p hp h1 h2 h3 => ?_⟩
  · unfold coursesF
    split <;> split <;> simp [kindsL]
  · unfold coursesF
    split <;> split
    · assumption
    · exact hp
    · assumption
    · exact hp
  · unfold coursesF
    simp only [Int.add_sub_cancel, he, if_true]
    have e1 : (p.1, p.2) = p := rfl
    rw [e1]
    simp only [hp, if_true]
    by_cases z : (p.1 + p.2) % 2 = 0
    · have z2 : ¬ (p.1 + 1 + p.2) % 2 = 0 := by omega
      simp [z, z2]
    · have z2 : (p.1 + 1 + p.2) % 2 = 0 := by omega
      simp only [z, z2, if_true, if_false]
      constructor
      · intro h; split at h <;> cases h
      · intro h; split at h <;> cases h
  · unfold coursesF
    constructor <;> intro h <;> (split at h <;> split at h <;> cases h)
  · unfold coursesF
    simp only [Int.sub_add_cancel]
    have e1 : (p.1, p.2) = p := rfl
    rw [e1]
    by_cases z : (p.1 + p.2) % 2 = 0
    · left
      have z2 : (p.1 - 1 + (p.2 - 1)) % 2 = 0 := by omega
      rw [if_pos z2, if_pos h3]
    · right; right; left
      have z2 : (p.1 - 1 + p.2) % 2 = 0 := by omega
      rw [if_pos z2, if_pos hp]
theorem courses_rows (asc : r.Pairwise ltP') (nd : r.Nodup) {k : Nat} (hk : k ≤ r.length) : (r.map (coursesF r)).take k ∈ rowsK r (fun _ => kindsL) k := by
  rw [rows_take asc nd _ hk]
  intro j hj
  exact ⟨fl_loc.mp courses_fl _ (sqAt_mem (by omega)), courses_fl.k _ (sqAt_mem (by omega))⟩
end
end DL

set_option maxHeartbeats 4000000
/-! plain: the law's rounds. -/
namespace DL
open PySem PySem.Spec PyProof.Rows L2 Evl

def chkB (s : Pt) (a : Int) (t : Pt) (x : Int) : Bool := !(decide (led s 1 = t) && (decide (a = 1) != decide (x = 3))) && !(decide (led s 2 = t) && (decide (a = 2) != decide (x = 4)))
/-- whether a kind fits behind a row -/
def suitsB (r spots : List Pt) (row : List Int) (x : Int) : Bool :=
  if spots.length = 1 then decide (x = 0) || decide (led (spots.getD row.length (0, 0)) x ∈ r)
  else (spots.zip row).all fun z => chkB z.1 z.2 (spots.getD row.length (0, 0)) x
def stepF (r spots : List Pt) (rows : List (List Int)) (lot : List Int) : List (List Int) := rows.flatMap fun row => (lot.filter (suitsB r spots row)).map fun x => row ++ [x]
def metB (row : List Int) : Bool := decide (row.getD 0 0 ∈ [1, 2]) || decide (row.getD 3 0 ∈ [3, 4])
def fitLaw (r spots : List Pt) (lots : List (List Int)) : List (List Int) :=
  if spots.length = 4 then (lots.foldl (stepF r spots) [[]]).filter metB else lots.foldl (stepF r spots) [[]]
theorem mem_stepF {r spots : List Pt} {rows : List (List Int)} {lot : List Int} {row : List Int} : row ∈ stepF r spots rows lot ↔ ∃ a ∈ rows, ∃ x ∈ lot, suitsB r spots a x = true ∧ row = a ++ [x] := by
  unfold stepF
  simp only [List.mem_flatMap, List.mem_map, List.mem_filter]
  constructor
  · rintro ⟨a, ha, x, ⟨hx, hs⟩, rfl⟩
    exact ⟨a, ha, x, hx, hs, rfl⟩
  · rintro ⟨a, ha, x, hx, hs, rfl⟩
    exact ⟨a, ha, x, ⟨hx, hs⟩, rfl⟩
theorem led1 (p : Pt) : led p 1 = (p.1 + 1, p.2) := rfl
theorem led2 (p : Pt) : led p 2 = (p.1, p.2 + 1) := rfl
theorem bne_not (a b : Bool) : (!(a != b)) = (a == b) := by cases a <;> cases b <;> rfl
theorem chk_e {s t : Pt} {a x : Int} (h : t = (s.1 + 1, s.2)) : chkB s a t x = (decide (a = 1) == decide (x = 3)) := by
  have e1 : decide (((s.1 + 1, s.2) : Pt) = t) = true := decide_eq_true h.symm
  have e2 : decide (((s.1, s.2 + 1) : Pt) = t) = false := decide_eq_false fun e => by rw [h] at e; injection e with e1 e2; omega
  unfold chkB
  rw [led1, led2, e1, e2, Bool.true_and, bne_not]
  simp
theorem chk_s {s t : Pt} {a x : Int} (h : t = (s.1, s.2 + 1)) : chkB s a t x = (decide (a = 2) == decide (x = 4)) := by
  have e1 : decide (((s.1, s.2 + 1) : Pt) = t) = true := decide_eq_true h.symm
  have e2 : decide (((s.1 + 1, s.2) : Pt) = t) = false := decide_eq_false fun e => by rw [h] at e; injection e with e1 e2; omega
  unfold chkB
  rw [led1, led2, e1, e2, Bool.true_and, bne_not]
  simp
theorem chk_n {s t : Pt} {a x : Int} (h1 : t ≠ (s.1 + 1, s.2)) (h2 : t ≠ (s.1, s.2 + 1)) : chkB s a t x = true := by
  have e1 : decide (((s.1 + 1, s.2) : Pt) = t) = false := decide_eq_false fun e => h1 e.symm
  have e2 : decide (((s.1, s.2 + 1) : Pt) = t) = false := decide_eq_false fun e => h2 e.symm
  unfold chkB
  rw [led1, led2, e1, e2]
  simp
theorem pt_ne {a b c d : Int} (h : a ≠ c ∨ b ≠ d) : ((a, b) : Pt) ≠ (c, d) := fun e => by
  injection e with e1 e2
  rcases h with h | h
  · exact h e1
  · exact h e2
theorem suits0 {r spots : List Pt} (h : spots.length ≠ 1) (x : Int) : suitsB r spots [] x = true := by
  unfold suitsB
  rw [if_neg h]
  simp
theorem pt_eq {a b c d : Int} (h1 : a = c) (h2 : b = d) : ((a, b) : Pt) = (c, d) := by rw [h1, h2]
theorem suits_pair {r : List Pt} {p t : Pt} (ht : t = (p.1, p.2 + 1) ∨ t = (p.1 + 1, p.2)) (a x : Int) : suitsB r [p, t] [a] x = fits2 p t a x := by
  have e : suitsB r [p, t] [a] x = chkB p a t x := by
    show (if 2 = 1 then _ else [(p, a)].all fun z => chkB z.1 z.2 t x) = _
    simp
  rw [e]
  rcases ht with h | h
  · rw [chk_s h]
    unfold fits2
    rw [if_neg (by rw [h]; show ¬ p.2 = p.2 + 1; omega)]
    rfl
  · rw [chk_e h]
    unfold fits2
    rw [if_pos (by rw [h])]
    rfl
theorem suits_f1 {r : List Pt} {p : Pt} (a c : Int) : suitsB r (four p) [a] c = (decide (a = 2) == decide (c = 4)) := by
  have e : suitsB r (four p) [a] c = chkB (p.1 - 1, p.2 - 1) a (p.1 - 1, p.2) c := by
    show (if 4 = 1 then _ else [((p.1 - 1, p.2 - 1), a)].all fun z => chkB z.1 z.2 (p.1 - 1, p.2) c) = _
    simp
  rw [e, chk_s (pt_eq rfl (by show p.2 = p.2 - 1 + 1; omega))]
theorem suits_f2 {r : List Pt} {p : Pt} (a c d : Int) : suitsB r (four p) [a, c] d = (decide (a = 1) == decide (d = 3)) := by
  have e : suitsB r (four p) [a, c] d = (chkB (p.1 - 1, p.2 - 1) a (p.1, p.2 - 1) d && chkB (p.1 - 1, p.2) c (p.1, p.2 - 1) d) := by
    show (if 4 = 1 then _ else [((p.1 - 1, p.2 - 1), a), ((p.1 - 1, p.2), c)].all fun z => chkB z.1 z.2 (p.1, p.2 - 1) d) = _
    simp
  rw [e, chk_e (pt_eq (by show p.1 = p.1 - 1 + 1; omega) rfl), chk_n (pt_ne (.inr (by show p.2 - 1 ≠ p.2; omega))) (pt_ne (.inl (by show p.1 ≠ p.1 - 1; omega))), Bool.and_true]
theorem suits_f3 {r : List Pt} {p : Pt} (a c d e : Int) : suitsB r (four p) [a, c, d] e = ((decide (c = 1) == decide (e = 3)) && (decide (d = 2) == decide (e = 4))) := by
  have e0 : suitsB r (four p) [a, c, d] e = (chkB (p.1 - 1, p.2 - 1) a (p.1, p.2) e && (chkB (p.1 - 1, p.2) c (p.1, p.2) e && chkB (p.1, p.2 - 1) d (p.1, p.2) e)) := by
    show (if 4 = 1 then _ else [((p.1 - 1, p.2 - 1), a), ((p.1 - 1, p.2), c), ((p.1, p.2 - 1), d)].all fun z => chkB z.1 z.2 (p.1, p.2) e) = _
    simp
  rw [e0, chk_n (pt_ne (.inr (by show p.2 ≠ p.2 - 1; omega))) (pt_ne (.inl (by show p.1 ≠ p.1 - 1; omega))), chk_e (pt_eq (by show p.1 = p.1 - 1 + 1; omega) rfl), chk_s (pt_eq rfl (by show p.2 = p.2 - 1 + 1; omega)), Bool.true_and]
theorem mem_fitLaw {r : List Pt} {L : Lf} {spot : List Pt} (hs : spot ∈ spotsL r) (hk : ∀ s ∈ spot, ∀ k ∈ L s, k ∈ kindsL) (row : List Int) : row ∈ fitLaw r spot (spot.map L) ↔ RowIn r L spot row := by
  rcases mem_spots.mp hs with ⟨p, hp, rfl⟩ | ⟨p, hp, h⟩
  · have e : fitLaw r (four p) ((four p).map L) = (stepF r (four p) (stepF r (four p) (stepF r (four p) (stepF r (four p) [[]] (L (p.1 - 1, p.2 - 1))) (L (p.1 - 1, p.2))) (L (p.1, p.2 - 1))) (L (p.1, p.2))).filter metB := rfl
    rw [e, List.mem_filter]
    simp only [mem_stepF, List.mem_singleton]
    constructor
    · rintro ⟨⟨_, ⟨_, ⟨_, ⟨_, rfl, a, ha, _, rfl⟩, c, hc, sc, rfl⟩, d, hd, sd, rfl⟩, x, hx, sx, rfl⟩, hm⟩
      simp only [List.nil_append, List.cons_append] at sc sd sx hm ⊢
      rw [suits_f1] at sc
      rw [suits_f2] at sd
      rw [suits_f3] at sx
      refine ⟨rfl, fun i s hi => ?_, ?_⟩
      · match i, hi with
        | 0, hi => cases hi; exact ha
        | 1, hi => cases hi; exact hc
        | 2, hi => cases hi; exact hd
        | 3, hi => cases hi; exact hx
        | i + 4, hi => simp [four] at hi
      · show ((decide (a = 2) == decide (c = 4)) && (decide (a = 1) == decide (d = 3)) && four1 a c d x) = true
        rw [sc, sd]
        unfold four1
        rw [sx]
        rw [Bool.and_eq_true] at sx
        have s1 := bq.mp sx.1
        have s2 := bq.mp sx.2
        unfold metB at hm
        simp only [List.getD_cons_zero, List.getD_cons_succ, Bool.or_eq_true, decide_eq_true_eq, List.mem_cons, List.not_mem_nil, or_false] at hm
        simp only [Bool.and_true, Bool.true_and, Bool.or_eq_true, decide_eq_true_eq, List.mem_cons, List.not_mem_nil, or_false]
        rcases hm with h | h | h
        · exact .inl h
        · exact .inr (.inl (s1.mpr h))
        · exact .inr (.inr (s2.mpr h))
    · rintro ⟨hl, hm, ho⟩
      match row, hl with
      | [a, c, d, x], _ =>
        have ho' : ((decide (a = 2) == decide (c = 4)) && (decide (a = 1) == decide (d = 3)) && four1 a c d x) = true := ho
        unfold four1 at ho'
        simp only [Bool.and_eq_true] at ho'
        obtain ⟨⟨h1, h2⟩, h3, h4, h5⟩ := ho'
        refine ⟨⟨[a, c, d], ⟨[a, c], ⟨[a], ⟨[], rfl, a, hm 0 _ rfl, suits0 (by simp [four]) a, rfl⟩, c, hm 1 _ rfl, by rw [suits_f1]; exact h1, rfl⟩, d, hm 2 _ rfl, by rw [suits_f2]; exact h2, rfl⟩, x, hm 3 _ rfl, by rw [suits_f3, h4, h5]; rfl, rfl⟩, ?_⟩
        have s1 := bq.mp h4
        have s2 := bq.mp h5
        unfold metB
        simp only [List.getD_cons_zero, List.getD_cons_succ, Bool.or_eq_true, decide_eq_true_eq, List.mem_cons, List.not_mem_nil, or_false]
        simp only [Bool.or_eq_true, decide_eq_true_eq, List.mem_cons, List.not_mem_nil, or_false] at h3
        rcases h3 with h | h | h
        · exact .inl h
        · exact .inr (.inl (s1.mp h))
        · exact .inr (.inr (s2.mp h))
  · have pair : ∀ t : Pt, t = (p.1, p.2 + 1) ∨ t = (p.1 + 1, p.2) → (row ∈ fitLaw r [p, t] ([p, t].map L) ↔ RowIn r L [p, t] row) := fun t ht => by
      have e : fitLaw r [p, t] ([p, t].map L) = stepF r [p, t] (stepF r [p, t] [[]] (L p)) (L t) := rfl
      rw [e]
      simp only [mem_stepF, List.mem_singleton]
      constructor
      · rintro ⟨_, ⟨_, rfl, a, ha, _, rfl⟩, x, hx, sx, rfl⟩
        simp only [List.nil_append, List.cons_append] at sx ⊢
        rw [suits_pair ht] at sx
        refine ⟨rfl, fun i s hi => ?_, sx⟩
        match i, hi with
        | 0, hi => cases hi; exact ha
        | 1, hi => cases hi; exact hx
        | i + 2, hi => simp at hi
      · rintro ⟨hl, hm, ho⟩
        match row, hl with
        | [a, x], _ => exact ⟨[a], ⟨[], rfl, a, hm 0 _ rfl, suits0 (by simp) a, rfl⟩, x, hm 1 _ rfl, by rw [suits_pair ht]; exact ho, rfl⟩
    rcases h with rfl | ⟨hq, rfl⟩ | ⟨hq, rfl⟩
    · have e : fitLaw r [p] ([p].map L) = stepF r [p] [[]] (L p) := rfl
      rw [e]
      simp only [mem_stepF, List.mem_singleton]
      have es : ∀ x, suitsB r [p] [] x = (decide (x = 0) || decide (led p x ∈ r)) := fun x => rfl
      have eg : ∀ x ∈ L p, ((decide (x = 0) || decide (led p x ∈ r)) = true ↔ x ∈ goodsL r p) := fun x hx => by
        unfold goodsL
        rw [List.mem_filter, Bool.or_eq_true, decide_eq_true_eq, decide_eq_true_eq]
        constructor
        · rintro (rfl | h)
          · exact ⟨by simp [kindsL], hp⟩
          · exact ⟨hk p (by simp) x hx, h⟩
        · exact fun h => .inr h.2
      constructor
      · rintro ⟨_, rfl, x, hx, sx, rfl⟩
        refine ⟨rfl, fun i s hi => ?_, ?_⟩
        · match i, hi with
          | 0, hi => cases hi; exact hx
          | i + 1, hi => simp at hi
        · show decide (x ∈ goodsL r p) = true
          exact decide_eq_true ((eg x hx).mp (by rw [← es]; exact sx))
      · rintro ⟨hl, hm, ho⟩
        match row, hl with
        | [x], _ =>
          have hx := hm 0 p rfl
          exact ⟨[], rfl, x, hx, by rw [es]; exact (eg x hx).mpr (of_decide_eq_true ho), rfl⟩
    · exact pair _ (.inl rfl)
    · exact pair _ (.inr rfl)
theorem fitLaw_nil {r : List Pt} {L : Lf} {st : Stp} (hk : ∀ s ∈ st.2.2, ∀ k ∈ L s, k ∈ kindsL) (g : Good r L st) : fitLaw r st.2.2 (st.2.2.map (updL L st.1 [st.2.1])) = [] := by
  obtain ⟨h1, i, h2, h3, h4⟩ := g
  rw [List.eq_nil_iff_forall_not_mem]
  intro row hr
  have hk' : ∀ s ∈ st.2.2, ∀ k ∈ updL L st.1 [st.2.1] s, k ∈ kindsL := fun s hs k hk' => by
    unfold updL at hk'
    split at hk'
    · rw [List.mem_singleton.mp hk']
      exact hk st.1 (List.mem_of_getElem? h2) _ h3
    · exact hk s hs k hk'
  obtain ⟨hl, hm, ho⟩ := (mem_fitLaw h1 hk' row).mp hr
  refine h4 ⟨row, ⟨hl, fun j s hj => ?_, ho⟩, ?_⟩
  · have := hm j s hj
    unfold updL at this
    split at this
    · rename_i e
      subst e
      rw [List.mem_singleton.mp this]
      exact h3
    · exact this
  · have := hm i st.1 h2
    unfold updL at this
    rw [if_pos rfl] at this
    exact List.mem_singleton.mp this
def atL (r : List Pt) : List (List Pt) := ((r.map fun s => [s]) ++ r.flatMap (pairsL r)) ++ (pointsL r).map four
theorem mem_at {r : List Pt} {spot : List Pt} : spot ∈ atL r ↔ spot ∈ spotsL r := by
  unfold atL spotsL
  simp only [List.mem_append, List.mem_map, List.mem_flatMap, List.mem_cons]
  constructor
  · rintro ((⟨p, hp, rfl⟩ | ⟨p, hp, h⟩) | h)
    · exact .inr ⟨p, hp, .inl rfl⟩
    · exact .inr ⟨p, hp, .inr h⟩
    · exact .inl h
  · rintro (h | ⟨p, hp, rfl | h⟩)
    · exact .inr h
    · exact .inl (.inl ⟨p, hp, rfl⟩)
    · exact .inl (.inr ⟨p, hp, h⟩)
theorem atL_len (r : List Pt) : (atL r).length ≤ 4 * r.length := by
  unfold atL
  rw [List.length_append, List.length_append, List.length_map, List.length_map]
  have h1 := pointsL_len r
  have h2 := flat_len (pairsL r) 2 r fun s _ => pairsL_len r s
  omega
/-! ### one square of a spot, one spot, one lap -/
def inCol (rows : List (List Int)) (j : Nat) (x : Int) : Bool := decide (x ∈ rows.map fun row => row.getD j 0)
def colL (L : Lf) (rows : List (List Int)) : Nat → List Pt → Lf
  | _, [] => L
  | j, s :: spot => colL (updL L s ((L s).filter (inCol rows j))) rows (j + 1) spot
/-- the first j squares of a spot are done -/
structure Prc (r : List Pt) (L : Lf) (spot : List Pt) (rows : List (List Int)) (j : Nat) (L2 : Lf) : Prop where
  done : ∀ (i : Nat) (s : Pt), i < j → spot[i]? = some s → L2 s = (L s).filter (inCol rows i)
  rest : ∀ s, (∀ i, i < j → spot[i]? ≠ some s) → L2 s = L s
theorem prc0 (r : List Pt) (L : Lf) (spot : List Pt) (rows : List (List Int)) : Prc r L spot rows 0 L := ⟨fun i s h => by omega, fun s _ => rfl⟩
theorem Prc.next {r : List Pt} {L L2 : Lf} {spot : List Pt} {rows : List (List Int)} {j : Nat} {s : Pt} (h : Prc r L spot rows j L2) (nd : spot.Nodup) (hj : spot[j]? = some s) : Prc r L spot rows (j + 1) (updL L2 s ((L2 s).filter (inCol rows j))) := by
  have es : L2 s = L s := h.rest s fun i hi e => by
    have := get_nodup nd e hj
    omega
  refine ⟨fun i t hi ht => ?_, fun t ht => ?_⟩
  · unfold updL
    by_cases e : t = s
    · subst e
      have := get_nodup nd ht hj
      subst this
      rw [if_pos rfl, es]
    · rw [if_neg e]
      refine h.done i t ?_ ht
      rcases Nat.lt_or_eq_of_le (Nat.le_of_lt_succ hi) with z | z
      · exact z
      · subst z; rw [hj] at ht; cases ht; exact absurd rfl e
  · have e : t ≠ s := fun e => by subst e; exact ht j (by omega) hj
    unfold updL
    rw [if_neg e]
    exact h.rest t fun i hi => ht i (by omega)
theorem Prc.le {r : List Pt} {L L2 : Lf} {spot : List Pt} {rows : List (List Int)} {j : Nat} (h : Prc r L spot rows j L2) : ∀ s, ∃ p : Int → Bool, L2 s = (L s).filter p := fun s => by
  by_cases z : ∃ i, i < j ∧ spot[i]? = some s
  · obtain ⟨i, h1, h2⟩ := z
    exact ⟨_, h.done i s h1 h2⟩
  · refine ⟨fun _ => true, ?_⟩
    rw [h.rest s fun i hi e => z ⟨i, hi, e⟩, filter_tt]
theorem col_sup {r : List Pt} {L : Lf} {spot : List Pt} (hs : spot ∈ spotsL r) (hk : ∀ s ∈ spot, ∀ k ∈ L s, k ∈ kindsL) (j : Nat) (x : Int) : inCol (fitLaw r spot (spot.map L)) j x = true ↔ Sup r L spot j x := by
  unfold inCol Sup
  rw [decide_eq_true_iff, List.mem_map]
  exact ⟨fun ⟨row, h1, h2⟩ => ⟨row, (mem_fitLaw hs hk row).mp h1, h2⟩, fun ⟨row, h1, h2⟩ => ⟨row, (mem_fitLaw hs hk row).mpr h1, h2⟩⟩
/-- what holds of what is left in the law's rounds -/
structure Bse (r : List Pt) (L0 L : Lf) : Prop where
  le : ∀ s, ∃ p : Int → Bool, L s = (L0 s).filter p
  keep : ∀ G, Cons r G → LeF r G L0 → LeF r G L
theorem Bse.k {r : List Pt} {L0 L : Lf} (h : Bse r L0 L) (hk : ∀ s, ∀ k ∈ L0 s, k ∈ kindsL) : ∀ s, ∀ k ∈ L s, k ∈ kindsL := fun s k hk' => by
  obtain ⟨p, e⟩ := h.le s
  rw [e] at hk'
  exact hk s k (List.mem_filter.mp hk').1
theorem Bse.n5 {r : List Pt} {L0 L : Lf} (h : Bse r L0 L) (hk : ∀ s, (L0 s).length ≤ 5) : ∀ s, (L s).length ≤ 5 := fun s => by
  obtain ⟨p, e⟩ := h.le s
  rw [e]
  exact filter_len _ _ _ (hk s)
theorem bse0 (r : List Pt) (L0 : Lf) : Bse r L0 L0 := ⟨fun s => ⟨fun _ => true, (filter_tt _).symm⟩, fun _ _ h => h⟩
structure Spt (r : List Pt) (L L2 : Lf) (spot : List Pt) : Prop where
  cnt : cntL r L2 ≤ cntL r L
  same : cntL r L2 = cntL r L → (∀ s ∈ r, L2 s = L s) ∧ Stab r L spot
theorem filter_same {α : Type} {p : α → Bool} {l : List α} (h : (l.filter p).length = l.length) : l.filter p = l := by
  rw [List.filter_eq_self]
  intro a ha
  cases e : p a with
  | true => rfl
  | false => have := filter_lt ha e; omega
theorem Prc.spt {r : List Pt} {L0 L L2 : Lf} {spot : List Pt} (hk0 : ∀ s, ∀ k ∈ L0 s, k ∈ kindsL) (b : Bse r L0 L) (hs : spot ∈ spotsL r) (h : Prc r L spot (fitLaw r spot (spot.map L)) spot.length L2) : Bse r L0 L2 ∧ Spt r L L2 spot := by
  have hk := b.k hk0
  have hin := (spots_in_room r spot hs).2
  have le1 : ∀ s, (L2 s).length ≤ (L s).length := fun s => by
    obtain ⟨p, e⟩ := h.le s
    rw [e]
    exact List.length_filter_le _ _
  refine ⟨⟨fun s => ?_, fun G c le s hs' k hk' => ?_⟩, sum_le fun s _ => le1 s, fun e => ?_⟩
  · obtain ⟨p, e⟩ := b.le s
    obtain ⟨p2, e2⟩ := h.le s
    exact ⟨fun x => p x && p2 x, by rw [e2, e, List.filter_filter]; exact List.filter_congr fun x _ => Bool.and_comm _ _⟩
  · have gl := b.keep G c le
    by_cases z : ∃ i, i < spot.length ∧ spot[i]? = some s
    · obtain ⟨i, h1, h2⟩ := z
      rw [h.done i s h1 h2, List.mem_filter]
      refine ⟨gl s hs' k hk', ?_⟩
      rw [col_sup hs (fun t _ => hk t)]
      exact (c spot hs i s h2 k hk').mono hin gl
    · rw [h.rest s fun i hi e => z ⟨i, hi, e⟩]
      exact gl s hs' k hk'
  · have same : ∀ s ∈ r, L2 s = L s := fun s hs' => by
      obtain ⟨p, ep⟩ := h.le s
      by_cases z : (L2 s).length < (L s).length
      · have := sum_lt (f := fun s => (L2 s).length) (g := fun s => (L s).length) (fun x _ => le1 x) hs' z
        unfold cntL at e
        omega
      · have z2 : (L2 s).length = (L s).length := by have := le1 s; omega
        rw [ep] at z2 ⊢
        exact filter_same z2
    refine ⟨same, fun i s hi k hk' => ?_⟩
    have hl : i < spot.length := (List.getElem?_eq_some_iff.mp hi).1
    have e2 := same s (hin s (List.mem_of_getElem? hi))
    rw [h.done i s hl hi] at e2
    rw [← e2] at hk'
    exact (col_sup hs (fun t _ => hk t) i k).mp (List.mem_filter.mp hk').2
/-- some spots of a lap are done -/
structure Pas (r : List Pt) (L1 L : Lf) (sp : List (List Pt)) : Prop where
  cnt : cntL r L ≤ cntL r L1
  same : cntL r L = cntL r L1 → (∀ s ∈ r, L s = L1 s) ∧ ∀ spot ∈ sp, Stab r L1 spot
theorem pas0 (r : List Pt) (L : Lf) : Pas r L L [] := ⟨Nat.le_refl _, fun _ => ⟨fun _ _ => rfl, fun _ h => by cases h⟩⟩
theorem Pas.step {r : List Pt} {L1 L L2 : Lf} {sp : List (List Pt)} {spot : List Pt} (h : Pas r L1 L sp) (hs : spot ∈ spotsL r) (q : Spt r L L2 spot) : Pas r L1 L2 (sp ++ [spot]) := by
  refine ⟨Nat.le_trans q.cnt h.cnt, fun e => ?_⟩
  have e1 : cntL r L2 = cntL r L := by have := q.cnt; have := h.cnt; omega
  have e2 : cntL r L = cntL r L1 := by omega
  obtain ⟨a, b⟩ := h.same e2
  obtain ⟨c, d⟩ := q.same e1
  refine ⟨fun s hs => (c s hs).trans (a s hs), fun t ht => ?_⟩
  rcases List.mem_append.mp ht with z | z
  · exact b t z
  · rw [List.mem_singleton.mp z]
    exact d.congr fun s hs' => a s ((spots_in_room r spot hs).2 s hs')
/-- the law's rounds at the beginning of a lap -/
structure Lap (r : List Pt) (L0 L : Lf) (i : Nat) (m : Int) : Prop where
  b : Bse r L0 L
  l : (i = 0 ∧ m = -1) ∨ ∃ L1, Pas r L1 L (atL r) ∧ m = cntL r L1 ∧ cntL r L1 + i ≤ 5 * r.length + 1
theorem cnt5 {r : List Pt} {L : Lf} (h : ∀ s, (L s).length ≤ 5) : cntL r L ≤ 5 * r.length := by
  have h1 : cntL r L ≤ (r.map fun _ => 5).sum := sum_le fun s _ => h s
  have h2 : ∀ l : List Pt, (l.map fun _ => 5).sum = 5 * l.length := fun l => by
    induction l with
    | nil => rfl
    | cons a l ih => rw [List.map_cons, List.sum_cons, ih, List.length_cons]; omega
  rw [h2] at h1
  exact h1
/-- what the rounds leave: all that holds together -/
structure Grt (r : List Pt) (L0 L : Lf) : Prop where
  b : Bse r L0 L
  c : Cons r L
theorem Lap.stop {r : List Pt} {L0 L : Lf} {i : Nat} {m : Int} (h : Lap r L0 L i m) (e : m = cntL r L) : Grt r L0 L := by
  refine ⟨h.b, fun spot hs => ?_⟩
  rcases h.l with ⟨_, z⟩ | ⟨L1, p, z, _⟩
  · omega
  · obtain ⟨a, b⟩ := p.same (by omega)
    exact (b spot (mem_at.mpr hs)).congr fun s hs' => (a s ((spots_in_room r spot hs).2 s hs')).symm
theorem Lap.go {r : List Pt} {L0 L L2 : Lf} {i : Nat} {m : Int} (h5 : ∀ s, (L0 s).length ≤ 5) (h : Lap r L0 L i m) (e : m ≠ cntL r L) (b2 : Bse r L0 L2) (p2 : Pas r L L2 (atL r)) : Lap r L0 L2 (i + 1) (cntL r L) := by
  refine ⟨b2, .inr ⟨L, p2, rfl, ?_⟩⟩
  have c5 := cnt5 (r := r) (h.b.n5 h5)
  rcases h.l with ⟨z, _⟩ | ⟨L1, p, z, w⟩
  · omega
  · have := p.cnt
    omega
theorem Lap.fin {r : List Pt} {L0 L : Lf} {m : Int} (h : Lap r L0 L (5 * r.length + 1) m) : Grt r L0 L := by
  rcases h.l with ⟨z, _⟩ | ⟨L1, p, z, w⟩
  · omega
  · refine ⟨h.b, fun spot hs => ?_⟩
    obtain ⟨a, b⟩ := p.same (by have := p.cnt; omega)
    exact (b spot (mem_at.mpr hs)).congr fun s hs' => (a s ((spots_in_room r spot hs).2 s hs')).symm
theorem Bse.leF {r : List Pt} {L0 L : Lf} (h : Bse r L0 L) : LeF r L L0 := fun s _ k hk => by
  obtain ⟨p, e⟩ := h.le s
  rw [e] at hk
  exact (List.mem_filter.mp hk).1
/-- the program's rounds and the law's leave the same -/
theorem falls_same {r : List Pt} {L0 L Lg : Lf} {fd : List Stp} (h : Rep r L0 fd L) (st : ∀ spot ∈ spotsL r, Stab r L spot) (g : Grt r L0 Lg) : fallsB r L = fallsB r Lg := by
  have c : Cons r L := fun spot hs => st spot hs
  have l1 : LeF r L Lg := g.b.keep L c h.le
  have l2 : LeF r Lg L := h.keeps g.c g.b.leF
  rw [Bool.eq_iff_iff, falls_iff, falls_iff]
  constructor
  · rintro ⟨s, hs, e⟩
    refine ⟨s, hs, List.eq_nil_iff_forall_not_mem.mpr fun k hk => ?_⟩
    have := l2 s hs k hk
    rw [e] at this
    cases this
  · rintro ⟨s, hs, e⟩
    refine ⟨s, hs, List.eq_nil_iff_forall_not_mem.mpr fun k hk => ?_⟩
    have := l1 s hs k hk
    rw [e] at this
    cases this
theorem Rep.nil_eq {r : List Pt} {L L2 : Lf} (h : Rep r L [] L2) : L2 = L := by
  generalize e : ([] : List Stp) = l at h
  cases h with
  | nil => rfl
  | snoc _ _ => simp at e
theorem Rep.uncons {r : List Pt} {L L2 : Lf} {st : Stp} {sts : List Stp} (h : Rep r L (st :: sts) L2) : Good r L st ∧ Rep r (struck1 L st) sts L2 := by
  generalize e : st :: sts = l at h
  induction h generalizing st sts with
  | nil => cases e
  | @snoc L' as b h1 g ih =>
    cases as with
    | nil =>
      injection e with e1 e2
      subst e1 e2
      have hz := Rep.nil_eq h1
      subst hz
      exact ⟨g, .nil _⟩
    | cons a as =>
      injection e with e1 e2
      subst e1 e2
      obtain ⟨g1, h2⟩ := ih rfl
      exact ⟨g1, .snoc h2 g⟩
end DL

set_option maxHeartbeats 4000000
/-! walks: _law_box, _law_take, _law_of, _law_cells. -/
namespace DL
open PySem PySem.Spec PyProof.Rows L2 Evl

local macro_rules
  | `(tactic| walk_at "op") => `(tactic| first
    | exact wo_add ⟨rfl, rfl⟩ | exact wo_sub ⟨rfl, rfl⟩ | exact wo_lt ⟨rfl, rfl⟩ | exact wo_le ⟨rfl, rfl⟩ | exact wo_gt ⟨rfl, rfl⟩ | exact wo_ge ⟨rfl, rfl⟩
    | exact wo_eqi ⟨rfl, rfl⟩ | exact wo_nei ⟨rfl, rfl⟩ | exact wo_eqb ⟨rfl, rfl⟩ | exact wo_neb ⟨rfl, rfl⟩ | exact wo_isN ⟨rfl, rfl⟩ | exact wo_notN ⟨rfl, rfl⟩)
  | `(tactic| walk_at "sq") => `(tactic| first | exact Sq.tup | exact Sq.lst | exact Sq.tupN | exact Sq.ref _ rfl)
  | `(tactic| walk_at "at") => `(tactic| first | rfl | assumption)
  | `(tactic| walk_at "isi") => `(tactic| first | exact wc_isI (by assumption) ⟨rfl, rfl⟩ | exact wc_isB (by assumption) ⟨rfl, rfl⟩ | exact wc_isT (by assumption) ⟨rfl, rfl⟩ | exact wc_isL (by assumption) ⟨rfl, rfl⟩ | exact wc_isLT (by assumption) ⟨rfl, rfl⟩ | exact wc_isBS (by assumption) ⟨rfl, rfl⟩)
  | `(tactic| walk_at "len") => `(tactic| exact wc_len (by first | exact Sq.tup | exact Sq.lst | exact Sq.tupN | exact Sq.ref _ rfl) ⟨rfl, rfl⟩)
  | `(tactic| walk_at "tuple") => `(tactic| exact wc_tuple (by first | exact Sq.lst | exact Sq.tup | exact Sq.tupN | exact Sq.ref _ rfl) ⟨rfl, rfl⟩)
  | `(tactic| walk_at "all") => `(tactic| exact wc_all (by assumption) (by first | exact SqO.lst | exact SqO.ref _ rfl) ⟨rfl, rfl⟩)

local macro_rules
  | `(tactic| walk_at "is_number") => `(tactic| exact ⟨_, rfl, by assumption, rfl, rfl⟩)
  | `(tactic| walk_at "tupled") => `(tactic| exact ⟨_, rfl, by assumption, rfl, rfl⟩)

theorem get_set {α : Type} {M : List α} {kk : Nat} {x : α} (h : M[kk]? = some x) (y : α) : (M.set kk y)[kk]? = some y := List.getElem?_set_self (List.getElem?_eq_some_iff.mp h).1
theorem set_same {α : Type} {M : List α} {kk : Nat} {x : α} (h : M[kk]? = some x) : M.set kk x = M := by
  obtain ⟨h1, h2⟩ := List.getElem?_eq_some_iff.mp h
  rw [← h2, List.set_getElem_self]
/-- the source of draws -/
structure Tn where
  a : Int
  b : Int
  c : Int
abbrev Tn.O (T : Tn) : MO := .lst [.int T.a, .int T.b, .int T.c]
structure Tn.Ok (T : Tn) (n : Nat) : Prop where
  a0 : 0 ≤ T.a
  b0 : 0 ≤ T.b
  b1 : T.b < 2 ^ 62
  c0 : 0 ≤ T.c
  c1 : T.c ≤ n
theorem Tn.Ok.le {T : Tn} {n m : Nat} (h : T.Ok n) (l : n ≤ m) : T.Ok m := ⟨h.a0, h.b0, h.b1, h.c0, by have := h.c1; omega⟩
def s_law_box : SpD := fun ds M Q => ∃ (dS : D) (cs : List Int) (k : Nat), ds = [dS, .int k] ∧ Sq M dS (cs.map .int) ∧ k ≤ 100 ∧ ∀ p T, Tn.Ok T 0 → Q (.ref p) ((p, T.O) :: M)
theorem ok__law_box {X : Cx} (B : Bs X) : Dn X "_law_box" 1 ["_law_script", "_law_k"] s_law_box := by
  refine def_by B 54 39 39 (k := 0) (N := ["_law_script", "_law_k", "_law_bit_so"]) rfl rfl ⟨rfl, rfl, rfl, by decide +kernel, rfl, by decide +kernel, by decide +kernel⟩ (fun _ _ _ _ _ _ us hl => match us, hl with | [_, _], _ => rfl) ?len ?body
  case len => rintro _ _ _ ⟨_, _, _, rfl, _⟩; rfl
  case body =>
    rintro X' h B _ M QD ⟨dS, cs, k, rfl, sq, hk, q⟩
    have key : ∀ bit : Int, WSs X' ((defBody (TH.top 54)).drop 1) [some dS, some (.int k), some (.int bit)] M { nx := fun _ M' => Rtn QD .non M', rt := Rtn QD } := fun bit => by
      have mk : IntMulOk (if bit < 0 then -bit else bit) (if decide ((10 : Int) ^ (18 : Int).toNat ≤ if bit < 0 then -bit else bit) = true then 1 else 0) := .of_right (intBits_le_64 (by split <;> omega) (by split <;> omega))
      have m2 : IntMulOk 39373 (k : Int) := .of_left (intBits_le_64 (by omega) (by omega))
      refine wss_one (ws_ret (DO.to (do_lst (da_cons (de_bin (de_callB h rfl B.f_abs boot_abs (da_cN (de_var h 2 rfl rfl rfl) da_nil) (wc_abs ⟨rfl, rfl⟩)) (de_callTy h rfl B.f_int boot_int (da_cons (de_cmp (de_callB h rfl B.f_abs boot_abs (da_cN (de_var h 2 rfl rfl rfl) da_nil) (wc_abs ⟨rfl, rfl⟩)) (de_bin de_int de_int (wo_pow (i := 10) (j := 18) ⟨by decide, by decide, by decide⟩ ⟨rfl, rfl⟩)) (by walk_at "op")) da_nil) (wc_intB ⟨rfl, rfl⟩)) (wo_mul mk ⟨rfl, rfl⟩)) (da_cons (de_bin (de_bin (de_bin (de_callTy h rfl B.f_int boot_int (da_cN (de_var h 2 rfl rfl rfl) da_nil) (wc_intI ⟨rfl, rfl⟩)) de_int (wo_mod (by decide) ⟨rfl, rfl⟩)) (de_bin de_int (de_var h 1 rfl rfl rfl) (wo_mul m2 ⟨rfl, rfl⟩)) (wo_add ⟨rfl, rfl⟩)) de_int (wo_add ⟨rfl, rfl⟩)) (da_cons de_int da_nil)))) fun p => .now (q p ⟨_, _, _⟩ ⟨?_, ?_, ?_, Int.le_refl 0, Int.le_refl 0⟩)))
      · refine Int.mul_nonneg ?_ ?_
        · split <;> omega
        · split <;> omega
      · have := Int.emod_nonneg bit (b := 2305843009213693951) (by decide)
        show 0 ≤ bit % 2305843009213693951 + 39373 * (k : Int) + 5322014
        omega
      · have := Int.emod_lt_of_pos bit (b := 2305843009213693951) (by decide)
        show bit % 2305843009213693951 + 39373 * (k : Int) + 5322014 < 2 ^ 62
        omega
    refine wss_cons (ws_set h 2 rfl rfl (we_ifE (DT.to (d := decide ((k : Int) < ((cs.map D.int).length : Int))) (dt_cmp (de_var h 1 rfl rfl rfl) (de_callB h rfl B.f_len boot_len (da_cN (de_var h 0 rfl rfl rfl) da_nil) (wc_len sq ⟨rfl, rfl⟩)) (wo_lt ⟨rfl, rfl⟩)) ⟨fun c => ?_, fun c => DE.to de_int (key 0)⟩)))
    have c' := of_decide_eq_true c
    have c2 : k < cs.length := by rw [List.length_map] at c'; omega
    exact DE.to (d := .int cs[k]) (de_ix (de_var h 0 rfl rfl rfl) (de_var h 1 rfl rfl rfl) sq (L2.atI_nat (by rw [List.getElem?_map, List.getElem?_eq_getElem c2]; rfl))) (key cs[k])

def s_law_take : SpD := fun ds M Q => ∃ (p : Addr) (kk : Nat) (T : Tn) (n : Nat) (below : Nat), ds = [.ref p, .int below] ∧ M[kk]? = some (p, T.O) ∧ T.Ok n ∧ n ≤ 1000000 ∧ 0 < below ∧ below ≤ 1000000 ∧
  ∀ (r : Nat) (T' : Tn), r < below → T'.Ok (n + 1) → Q (.int r) (M.set kk (p, T'.O))
theorem ok__law_take {X : Cx} (B : Bs X) : Dn X "_law_take" 1 ["_law_tin", "_law_below_so"] s_law_take := by
  refine def_by B 55 40 40 (k := 0) (N := ["_law_tin", "_law_below_so", "_law_drawn_so", "_law_once_so", "_law_wide_so", "_law_twice_so"]) rfl rfl ⟨rfl, rfl, rfl, by decide +kernel, rfl, by decide +kernel, by decide +kernel⟩ (fun _ _ _ _ _ _ us hl => match us, hl with | [_, _], _ => rfl) ?len ?body
  case len => rintro _ _ _ ⟨_, _, _, _, _, rfl, _⟩; rfl
  case body =>
    rintro X' h B _ M QD ⟨p, kk, T, n, below, rfl, hM, hT, hn, hb, hb2, q⟩
    have ha := hT.a0
    have hb0 := hT.b0
    have hb1 := hT.b1
    have hc0 := hT.c0
    have hc1 := hT.c1
    have hbz : (0 : Int) < below := by omega
    refine wss_cons (ws_if (DT.to (d := decide (0 < T.a)) (dt_cmp (de_ix (de_var h 0 rfl rfl rfl) de_int (.ref kk hM) rfl) de_int (wo_gt ⟨rfl, rfl⟩)) ⟨fun c => ?_, fun c => wss_nil ?_⟩))
    · refine wss_cons (ws_set h 2 rfl rfl (DE.to (de_bin (de_callTy h rfl B.f_int boot_int (da_cons (de_ix (de_var h 0 rfl rfl rfl) de_int (.ref kk hM) rfl) da_nil) (wc_intI ⟨rfl, rfl⟩)) (de_var h 1 rfl rfl rfl) (wo_mod hbz ⟨rfl, rfl⟩)) ?_))
      refine wss_cons (ws_asg (DE.to (de_bin (de_ix (de_var h 0 rfl rfl rfl) de_int (.ref kk hM) rfl) (de_var h 1 rfl rfl rfl) (wo_fdiv ⟨hbz, by omega⟩ ⟨rfl, rfl⟩)) (wg_sub (DE.to (de_var h 0 rfl rfl rfl) (DE.to de_int (wst_list kk hM rfl ?_))))))
      refine wss_one (ws_ret (DE.to (de_var h 2 rfl rfl rfl) (.now ?_)))
      have r0 := Int.emod_nonneg T.a (b := (below : Int)) (by omega)
      have r1 := Int.emod_lt_of_pos T.a hbz
      have q' := q (T.a % below).toNat ⟨T.a / below, T.b, T.c⟩ (by omega) ⟨Int.ediv_nonneg ha (by omega), hb0, hb1, hc0, by show T.c ≤ _; omega⟩
      rw [Int.toNat_of_nonneg r0] at q'
      exact q'
    · obtain ⟨c', hc'⟩ : ∃ c', T.c + 1 = c' := ⟨_, rfl⟩
      refine wss_cons (ws_asg (DE.to (d := .int c') (DE.as (de_bin (de_ix (de_var h 0 rfl rfl rfl) de_int (.ref kk hM) rfl) de_int (wo_add ⟨rfl, rfl⟩)) (congrArg D.int hc')) (wg_sub (DE.to (de_var h 0 rfl rfl rfl) (DE.to de_int (wst_list kk hM rfl ?_))))))
      have hM2 : (M.set kk (p, Tn.O ⟨T.a, T.b, c'⟩))[kk]? = some (p, Tn.O ⟨T.a, T.b, c'⟩) := get_set hM _
      have hT' : Tn.Ok ⟨T.a, T.b, c'⟩ (n + 1) := ⟨ha, hb0, hb1, by show 0 ≤ c'; omega, by show c' ≤ _; omega⟩
      have hcc : 0 ≤ c' ∧ c' ≤ 1000001 := by omega
      have k1 : IntMulOk 48271 c' := .of_left (intBits_le_64 (by omega) (by omega))
      have k2 : IntMulOk (T.b + 48271 * c') (39373 + c') := .of_right (intBits_le_64 (by omega) (by omega))
      refine wss_cons (ws_set h 3 rfl rfl (DE.to (de_bin (de_callTy h rfl B.f_int boot_int (da_cons (de_bin (de_bin (de_ix (de_var h 0 rfl rfl rfl) de_int (.ref kk hM2) rfl) (de_bin de_int (de_ix (de_var h 0 rfl rfl rfl) de_int (.ref kk hM2) rfl) (wo_mul k1 ⟨rfl, rfl⟩)) (wo_add ⟨rfl, rfl⟩)) (de_bin de_int (de_ix (de_var h 0 rfl rfl rfl) de_int (.ref kk hM2) rfl) (wo_add ⟨rfl, rfl⟩)) (wo_mul k2 ⟨rfl, rfl⟩)) da_nil) (wc_intI ⟨rfl, rfl⟩)) de_int (wo_mod (by decide) ⟨rfl, rfl⟩)) ?_))
      have o0 := Int.emod_nonneg ((T.b + 48271 * c') * (39373 + c')) (b := 2147483647) (by decide)
      have o1 := Int.emod_lt_of_pos ((T.b + 48271 * c') * (39373 + c')) (b := 2147483647) (by decide)
      generalize (T.b + 48271 * c') * (39373 + c') % 2147483647 = once at o0 o1
      refine wss_cons (ws_set h 4 rfl rfl (DE.to (de_bin (de_bin (de_callTy h rfl B.f_int boot_int (da_cN (de_var h 3 rfl rfl rfl) da_nil) (wc_intI ⟨rfl, rfl⟩)) de_int (wo_mod (by decide) ⟨rfl, rfl⟩)) de_int (wo_add ⟨rfl, rfl⟩)) ?_))
      have w0 := Int.emod_nonneg once (b := 40009) (by decide)
      have w1 := Int.emod_lt_of_pos once (b := 40009) (by decide)
      generalize once % 40009 + 7 = wide at w0 w1
      refine wss_cons (ws_set h 5 rfl rfl (DE.to (de_bin (de_callTy h rfl B.f_int boot_int (da_cons (de_bin (de_bin (de_bin (de_var h 3 rfl rfl rfl) (de_ix (de_var h 0 rfl rfl rfl) de_int (.ref kk hM2) rfl) (wo_add ⟨rfl, rfl⟩)) (de_bin (de_ix (de_var h 0 rfl rfl rfl) de_int (.ref kk hM2) rfl) de_int (wo_fdiv (by decide) ⟨rfl, rfl⟩)) (wo_add ⟨rfl, rfl⟩)) (de_var h 4 rfl rfl rfl) (wo_mul (.of_left (intBits_le_64 ?_ ?_)) ⟨rfl, rfl⟩)) da_nil) (wc_intI ⟨rfl, rfl⟩)) de_int (wo_mod (by decide) ⟨rfl, rfl⟩)) ?_))
      · show -(2 ^ 64) < once + c' + T.b / 1000003
        omega
      · show once + c' + T.b / 1000003 < 2 ^ 64
        omega
      generalize hX : (once + c' + T.b / 1000003) * wide = X0
      have t0 := Int.emod_nonneg X0 (b := 2147483629) (by decide)
      have t1 := Int.emod_lt_of_pos X0 (b := 2147483629) (by decide)
      generalize X0 % 2147483629 = twice at t0 t1
      refine wss_one (ws_ret (DE.to (de_bin (de_callTy h rfl B.f_int boot_int (da_cons (de_bin (de_bin (de_callTy h rfl B.f_int boot_int (da_cons (de_bin (de_bin (de_var h 5 rfl rfl rfl) de_int (wo_mul (.of_right (intBits_le_64 (by omega) (by omega))) ⟨rfl, rfl⟩)) (de_var h 3 rfl rfl rfl) (wo_add ⟨rfl, rfl⟩)) da_nil) (wc_intI ⟨rfl, rfl⟩)) de_int (wo_mod (by decide) ⟨rfl, rfl⟩)) de_int (wo_fdiv (by decide) ⟨rfl, rfl⟩)) da_nil) (wc_intI ⟨rfl, rfl⟩)) (de_var h 1 rfl rfl rfl) (wo_mod hbz ⟨rfl, rfl⟩)) (.now ?_)))
      generalize (twice * 48271 + once) % 2147483587 / 64 = z
      have r0 := Int.emod_nonneg z (b := (below : Int)) (by omega)
      have r1 := Int.emod_lt_of_pos z hbz
      have q' := q (z % below).toNat ⟨T.a, T.b, c'⟩ (by omega) hT'
      rw [Int.toNat_of_nonneg r0] at q'
      exact q'

def s_law_of : SpD := fun ds M Q => ∃ (p : Addr) (kk : Nat) (T : Tn) (n : Nat) (dg : D) (gs : List D), ds = [.ref p, dg] ∧ M[kk]? = some (p, T.O) ∧ T.Ok n ∧ n < 1000000 ∧ (∀ T' : Tn, Sq (M.set kk (p, T'.O)) dg gs) ∧ gs ≠ [] ∧ gs.length ≤ 1000000 ∧
  ∀ (r : Nat) (g : D) (T' : Tn), gs[r]? = some g → T'.Ok (n + 1) → Q g (M.set kk (p, T'.O))
theorem ok__law_of {X : Cx} (B : Bs X) : Dn X "_law_of" 2 ["_law_tin", "_law_goods_so"] s_law_of := by
  refine def_by B 57 42 42 (k := 1) (N := ["_law_tin", "_law_goods_so"]) rfl rfl ⟨rfl, rfl, rfl, by decide +kernel, rfl, by decide +kernel, by decide +kernel⟩ (fun _ _ _ _ _ _ us hl => match us, hl with | [_, _], _ => rfl) ?len ?body
  case len => rintro _ _ _ ⟨_, _, _, _, _, _, rfl, _⟩; rfl
  case body =>
    rintro X' h B _ M QD ⟨p, kk, T, n, dg, gs, rfl, hM, hT, hn, hs, hne, hl, q⟩
    have hpos := List.length_pos_iff.mpr hne
    have s0 : Sq M dg gs := by
      have := hs T
      rwa [set_same hM] at this
    refine wss_one (ws_ret (we_ix (DE.to (de_var h 1 rfl rfl rfl) (we_call h (ok__law_take B) rfl (DA.to (da_cons (de_var h 0 rfl rfl rfl) (da_cons (de_callB h rfl B.f_len boot_len (da_cN (de_var h 1 rfl rfl rfl) da_nil) (wc_len s0 ⟨rfl, rfl⟩)) da_nil)) ⟨p, kk, T, n, gs.length, rfl, hM, hT, by omega, hpos, hl, fun r T' hr hT' => ?_⟩)))))
    exact ⟨gs, r, gs[r], hs T', rfl, L2.atI_nat (List.getElem?_eq_getElem hr), .now (q r gs[r] T' (List.getElem?_eq_getElem hr) hT')⟩
end DL

set_option maxHeartbeats 4000000
/-! walks: _law_cells, _law_boxed, _law_border; enumerate, typed. -/
namespace DL
open PySem PySem.Spec PyProof.Rows L2 Evl

local macro_rules
  | `(tactic| walk_at "op") => `(tactic| first
    | exact wo_add ⟨rfl, rfl⟩ | exact wo_sub ⟨rfl, rfl⟩ | exact wo_lt ⟨rfl, rfl⟩ | exact wo_le ⟨rfl, rfl⟩ | exact wo_gt ⟨rfl, rfl⟩ | exact wo_ge ⟨rfl, rfl⟩
    | exact wo_eqi ⟨rfl, rfl⟩ | exact wo_nei ⟨rfl, rfl⟩ | exact wo_eqb ⟨rfl, rfl⟩ | exact wo_neb ⟨rfl, rfl⟩ | exact wo_isN ⟨rfl, rfl⟩ | exact wo_notN ⟨rfl, rfl⟩)
  | `(tactic| walk_at "sq") => `(tactic| first | exact Sq.tup | exact Sq.lst | exact Sq.tupN | exact Sq.ref _ rfl)
  | `(tactic| walk_at "at") => `(tactic| first | rfl | assumption)
  | `(tactic| walk_at "isi") => `(tactic| first | exact wc_isI (by assumption) ⟨rfl, rfl⟩ | exact wc_isB (by assumption) ⟨rfl, rfl⟩ | exact wc_isT (by assumption) ⟨rfl, rfl⟩ | exact wc_isL (by assumption) ⟨rfl, rfl⟩ | exact wc_isLT (by assumption) ⟨rfl, rfl⟩ | exact wc_isBS (by assumption) ⟨rfl, rfl⟩)
  | `(tactic| walk_at "len") => `(tactic| exact wc_len (by first | exact Sq.tup | exact Sq.lst | exact Sq.tupN | exact Sq.ref _ rfl) ⟨rfl, rfl⟩)
  | `(tactic| walk_at "tuple") => `(tactic| exact wc_tuple (by first | exact Sq.lst | exact Sq.tup | exact Sq.tupN | exact Sq.ref _ rfl) ⟨rfl, rfl⟩)
  | `(tactic| walk_at "all") => `(tactic| exact wc_all (by assumption) (by first | exact SqO.lst | exact SqO.ref _ rfl) ⟨rfl, rfl⟩)

local macro_rules
  | `(tactic| walk_at "is_number") => `(tactic| exact ⟨_, rfl, by assumption, rfl, rfl⟩)
  | `(tactic| walk_at "tupled") => `(tactic| exact ⟨_, rfl, by assumption, rfl, rfl⟩)

section
variable {X : Cx} {N : List Str} {sc : Scope} {k : Nat} {b : Bool} {ρ : EnvD} {M M1 M2 M' : MS} {pos : Pos} {Q : D → MS → Prop} {E : DEnds}
def enP {α : Type} (gd0 : α → D) (x : α × Nat) : D := .tup [.int (x.2 : Int), gd0 x.1]
theorem enD_map {α : Type} (gd0 : α → D) (l0 : List α) : enD (l0.map gd0) = l0.zipIdx.map (enP gd0) := by
  unfold enD
  apply List.ext_getElem?
  intro i
  rw [List.getElem?_mapIdx, List.getElem?_map, List.getElem?_map, List.getElem?_zipIdx]
  cases l0[i]? with
  | none => rfl
  | some x => simp [enP]
theorem zipIdx_get {α : Type} {l0 : List α} {i : Nat} {x : α × Nat} (h : l0.zipIdx[i]? = some x) : l0[i]? = some x.1 ∧ x.2 = i := by
  rw [List.getElem?_zipIdx] at h
  cases e : l0[i]? with
  | none => rw [e] at h; cases h
  | some y => rw [e] at h; cases h; exact ⟨rfl, by simp⟩
theorem fi_en (h : XOk X N sc k b) {e : Expr} {p tpos : Pos} {elts : List Expr} {kk : Nat} {d : D} {xs : List D} {α : Type} {l0 : List α} {gd0 : α → D} {I : Nat → EnvD → MS → Prop} (hg : glB sc "enumerate" = true) (hm : X.mg "enumerate" = none)
    (he : DE X e ρ M d M) (s : ∀ M', Sq M' d xs) (q : xs = l0.map gd0) (hs : starEach [e] X.env = [(false, eval e X.env)] := by rfl) : WI X (.Tuple elts kk tpos) (.Call (.Name "enumerate" p) [e] [] pos) ρ M fun items Gd M1' => items = l0.zipIdx.map (enP gd0) ∧ M1' = M ∧ ∀ i ρ' M', I i ρ' M' → Gd M' :=
  wi_en h hg hm ((da_cons he da_nil hs).to ⟨d, xs, rfl, s _, by rw [q]; exact enD_map _ _, rfl, fun _ _ _ _ => s _⟩) hs
theorem wi_enE (h : XOk X N sc k b) {e : Expr} {p tpos : Pos} {elts : List Expr} {kk : Nat} {d : D} {xs : List D} {α : Type} {l0 : List α} {gd0 : α → D} (hg : glB sc "enumerate" = true) (hm : X.mg "enumerate" = none)
    (he : DE X e ρ M d M) (s : ∀ M', Sq M' d xs) (q : xs = l0.map gd0) (hs : starEach [e] X.env = [(false, eval e X.env)] := by rfl) : WI X (.Tuple elts kk tpos) (.Call (.Name "enumerate" p) [e] [] pos) ρ M fun items Gd M1' => items = l0.zipIdx.map (enP gd0) ∧ (∀ m, Gd (m :: M1')) ∧ M1' = M :=
  wi_en h hg hm ((da_cons he da_nil hs).to ⟨d, xs, rfl, s _, by rw [q]; exact enD_map _ _, fun _ => s _, rfl⟩) hs
end
theorem cut_map {α β : Type} (f : α → β) (xs : List α) (lo hi : Option Int) : cutA (xs.map f) lo hi = (cutA xs lo hi).map f := by
  unfold cutA
  rw [List.length_map, List.map_take, List.map_drop]
theorem cut_two {α : Type} (xs : List α) : (cutA xs none (some 2)).length = min 2 xs.length := by
  have e := HT.sIx_nat xs.length xs.length 2
  simp only [Int.cast_ofNat_Int] at e
  unfold cutA
  rw [HT.sIx_none, e, List.drop_zero, List.length_take]
  omega
theorem cut_some {α : Type} {xs : List α} {j : Option Int} {i : Nat} {x : α} (h : (cutA xs (some 2) j)[i]? = some x) : 2 < xs.length := by
  have e := HT.sIx_nat xs.length 0 2
  simp only [Int.cast_ofNat_Int] at e
  have hl := (List.getElem?_eq_some_iff.mp h).1
  unfold cutA at hl
  rw [e, List.length_take, List.length_drop] at hl
  omega
def s_law_cells : SpD := fun ds M Q => ∃ (xs : List Int), ds = [.lsK (xs.map .int), .int 2] ∧ xs.length ≤ 63 ∧ ∀ p (cs : List Int), cs.length = 1 ∨ cs.length = 2 → Q (.ref p) ((p, .lst (cs.map .int)) :: M)
theorem ok__law_cells {X : Cx} (B : Bs X) : Dn X "_law_cells" 1 ["_law_script", "_law_most_so"] s_law_cells := by
  refine def_by B 56 41 41 (k := 0) (N := ["_law_script", "_law_most_so", "_law_cells_so", "_law_k", "_law_bit_so", "_law_at_so"]) rfl rfl ⟨rfl, rfl, rfl, by decide +kernel, rfl, by decide +kernel, by decide +kernel⟩ (fun _ _ _ _ _ _ us hl => match us, hl with | [_, _], _ => rfl) ?len ?body
  case len => rintro _ _ _ ⟨_, rfl, _⟩; rfl
  case body =>
    rintro X' h B _ M QD ⟨xs, rfl, hl, q⟩
    have key : ∀ (p : Addr) (c0 : List Int), (c0.length = 1 ∨ c0.length = 2) → (2 < xs.length → c0.length = 2) → WSs X' ((defBody (TH.top 56)).drop 1) [some (.lsK (xs.map .int)), some (.int 2), some (.ref p), none, none, none] ((p, .lst (c0.map .int)) :: M) { nx := fun _ M' => Rtn QD .non M', rt := Rtn QD } := fun p c0 hc h2 => by
      refine wss_cons (ws_forT h (cutA xs (some 2) (some 63)).zipIdx (enP .int) (fun i ρ' M' => ∃ cs : List Int, ∃ o3 o4 o5, ρ' = [some (.lsK (xs.map .int)), some (.int 2), some (.ref p), o3, o4, o5] ∧ M' = (p, .lst (cs.map .int)) :: M ∧ cs.length = c0.length)
        (fi_en h (xs := (cutA xs (some 2) (some 63)).map .int) rfl B.f_enumerate (DO.frz (wo_sliceK (DE.to (de_var h 0 rfl rfl rfl) ⟨⟨2, rfl, (de_var h 1 rfl rfl rfl)⟩, ⟨63, rfl, de_int⟩, _, rfl, fun p => ⟨p, rfl, by rw [cut_map]⟩⟩))) (fun _ => .lst) rfl)
        ⟨c0, none, none, none, rfl, rfl, rfl⟩ ?_ ?_)
      · rintro i ⟨bit, j⟩ ρ' M' hx ⟨cs, o3, o4, o5, rfl, rfl, hcs⟩
        obtain ⟨hx1, rfl⟩ := zipIdx_get hx
        have hc2 : cs.length = 2 := by rw [hcs]; exact h2 (cut_some hx1)
        have hj64 : j < 64 := by
          have := (List.getElem?_eq_some_iff.mp hx1).1
          unfold cutA at this
          rw [List.length_take, List.length_drop] at this
          omega
        refine wg_tup h (wgs_cons h 3 rfl rfl (wgs_cons h 4 rfl rfl (wgs_nil ?_))) rfl
        refine wss_cons (ws_set h 5 rfl rfl (DE.to (d := .int ((j % 2 : Nat) : Int)) (DE.as (de_bin (de_callTy h rfl B.f_int boot_int (da_cN (de_var h 3 rfl rfl rfl) da_nil) (wc_intI ⟨rfl, rfl⟩)) (de_var h 1 rfl rfl rfl) (wo_mod (by decide) ⟨rfl, rfl⟩)) (by simp)) ?_))
        have hj2 : j % 2 < cs.length := by omega
        have m1 : IntMulOk bit ((j : Int) + 2) := .of_right (intBits_le_64 (by omega) (by omega))
        refine wss_one (ws_asg (DE.to (d := .int (cs[j % 2] + bit * ((j : Int) + 2))) (de_bin (de_ix (de_var h 2 rfl rfl rfl) (de_var h 5 rfl rfl rfl) (.ref 0 rfl) (L2.atI_nat (by rw [List.getElem?_map, List.getElem?_eq_getElem hj2]; rfl))) (de_bin (de_var h 4 rfl rfl rfl) (de_bin (de_var h 3 rfl rfl rfl) de_int (by walk_at "op")) (wo_mul m1 ⟨rfl, rfl⟩)) (wo_add ⟨rfl, rfl⟩)) (wg_sub (DE.to (de_var h 2 rfl rfl rfl) (DE.to (de_var h 5 rfl rfl rfl) (wst_list (j := j % 2) 0 rfl ?_ ?_))))))
        · unfold ixN
          rw [if_pos (by omega), if_pos (by rw [List.length_map]; omega), Int.toNat_natCast]
        · refine ⟨cs.set (j % 2) (cs[j % 2] + bit * ((j : Int) + 2)), _, _, _, rfl, ?_, by rw [List.length_set]; exact hcs⟩
          show (p, MO.lst _) :: M = _
          rw [List.map_set]
      · rintro ρ' M' ⟨cs, o3, o4, o5, rfl, rfl, hcs⟩
        exact wss_one (ws_ret (DE.to (de_var h 2 rfl rfl rfl) (.now (q p cs (by rw [hcs]; exact hc)))))
    have c2 := cut_two xs
    refine wss_cons (ws_set h 2 rfl rfl (we_orL (DO.to (mo := .lst ((cutA xs none (some 2)).map .int)) (do_callTy h rfl B.f_list boot_list (da_cons (DO.frz (wo_sliceK (DE.to (de_var h 0 rfl rfl rfl) ⟨rfl, ⟨2, rfl, (de_var h 1 rfl rfl rfl)⟩, _, rfl, fun p => ⟨p, rfl, by rw [cut_map]⟩⟩))) da_nil) (wc_list .lst fun p => ⟨p, rfl, rfl⟩)) fun p => ⟨_, .ref 0 rfl, fun ne => ?_, fun e => ?_⟩)))
    · have ne' : (cutA xs none (some 2)).length ≠ 0 := fun z => ne (by rw [List.length_eq_zero_iff.mp z]; rfl)
      exact key p _ (by omega) (fun z => by omega)
    · have e' : (cutA xs none (some 2)).length = 0 := by have := congrArg List.length e; simpa using this
      rw [e]
      refine we_one (DO.to (do_lst (da_cC de_int da_nil)) fun p2 => ?_)
      refine wss_perm (List.Perm.swap _ _ _) (wss_drop ?_)
      exact key p2 [0] (.inl rfl) (fun z => by omega)

def boxL (hi wi : Nat) : List Pt := (List.range wi).flatMap fun (x : Nat) => (List.range hi).map fun (y : Nat) => (((x : Int), (y : Int)) : Pt)
def s_law_boxed : SpD := fun ds M Q => ∃ hi wi : Nat, ds = [.int hi, .int wi] ∧ hi ≤ 10 ∧ wi ≤ 10 ∧ Q (roomD (boxL hi wi)) M
theorem ok__law_boxed {X : Cx} (B : Bs X) : Dn X "_law_boxed" 1 ["_law_high_so", "_law_wide_so"] s_law_boxed := by
  refine def_by B 74 59 59 (k := 0) (N := ["_law_high_so", "_law_wide_so", "_law_found", "_law_x", "_law_y"]) rfl rfl ⟨rfl, rfl, rfl, by decide +kernel, rfl, by decide +kernel, by decide +kernel⟩ (fun _ _ _ _ _ _ us hl => match us, hl with | [_, _], _ => rfl) ?len ?body
  case len => rintro _ _ _ ⟨_, _, rfl, _⟩; rfl
  case body =>
    rintro X' h B _ M QD ⟨hi, wi, rfl, h1, h2, q⟩
    refine wss_cons (ws_set h 2 rfl rfl (DE.to (do_lst da_nil).frz ?_))
    refine wss_cons (ws_forT h (List.range wi) (fun i => .int (i : Int)) (fun i ρ' M' => ∃ o3 o4, ρ' = [some (.int hi), some (.int wi), some (.lst (((List.range wi).take i).flatMap fun (x : Nat) => (List.range hi).map fun (y : Nat) => sqD ((x : Int), (y : Int)))), o3, o4] ∧ M' = M) (WI.imp (fi_rng h (I := fun i ρ' M' => True) rfl B.f_range (de_var h 1 rfl rfl rfl) (by omega) (by omega)) fun a c d ⟨e1, e2, e3⟩ => ⟨by rw [e1, Int.toNat_natCast], e2, fun i ρ' M' _ => e3 i ρ' M' trivial⟩) ⟨none, none, rfl, rfl⟩ ?_ ?_)
    · rintro i x ρ' M' hx ⟨o3, o4, rfl, rfl⟩
      refine wg_name h 3 rfl rfl ?_
      have l1 := flat_len2 (fun (x : Nat) => (List.range hi).map fun (y : Nat) => sqD ((x : Int), (y : Int))) hi 10 ((List.range wi).take i) (fun x => by simp) (take_len _ _ _ (by simp; omega))
      refine wss_one (ws_set h 2 rfl rfl (DE.to (d := .lst (((List.range wi).take (i + 1)).flatMap fun (x : Nat) => (List.range hi).map fun (y : Nat) => sqD ((x : Int), (y : Int)))) (DE.as (DO.frz (do_bin (de_var h 2 rfl rfl rfl) (DO.frz (do_lcM h B (List.range hi) (fun (y : Nat) => .int (y : Int)) (fun (y : Nat) => sqD ((x : Int), (y : Int))) [("_law_y", 4)] (tg_name h 4 rfl rfl (by simp)) rfl ⟨wi_rngE h rfl B.f_range (de_var h 0 rfl rfl rfl) (by omega) (by omega) (by simp), by simp; omega, fun y hy => ⟨_, rfl, fun X' ⟨h, B, _⟩ m => (de_tup (da_cN (de_var h 3 rfl rfl rfl) (da_cN (de_var h 4 rfl rfl rfl) da_nil)))⟩⟩)) (wo_cat .lst .lst (by simp; simp at l1; omega) fun p => ⟨p, rfl, rfl⟩))) (by rw [take_flat _ hx]; rfl)) ⟨_, _, rfl, rfl⟩))
    · rintro ρ' M' ⟨o3, o4, rfl, rfl⟩
      refine wss_one (ws_ret (DE.to (d := roomD (boxL hi wi)) (DE.as (de_callTy h rfl B.f_tuple boot_tuple (da_cN (de_var h 2 rfl rfl rfl) da_nil) (wc_tuple .lst ⟨rfl, rfl⟩)) ?_) (.now q)))
      rw [List.take_of_length_le (Nat.le_refl _)]
      unfold boxL
      show D.tup _ = D.tup _
      rw [List.map_flatMap]
      simp [Function.comp_def]

def bordL (r : List Pt) (ks : List Int) : List Int := ((r.zip ks).filter fun x => decide (x.1 ∈ rimL r)).map (·.2)
theorem bord_len {r : List Pt} : ∀ {l : List Pt} {ks : List Int}, l.length = ks.length → (((l.zip ks).filter fun x => decide (x.1 ∈ rimL r)).map (·.2)).length = (l.filter fun s => decide (s ∈ rimL r)).length
  | [], _, _ => by simp
  | s :: l, [], h => by simp at h
  | s :: l, k :: ks, h => by
    have ih := bord_len (r := r) (l := l) (ks := ks) (by simpa using h)
    rw [List.length_map] at ih ⊢
    rw [List.zip_cons_cons, List.filter_cons, List.filter_cons]
    by_cases e : s ∈ rimL r
    · simp [e, ih]
    · simp [e, ih]
theorem bord_good {r : List Pt} {ks : List Int} (hl : ks.length = r.length) (hk : ∀ k ∈ ks, k ∈ kindsL) : GoodB r (bordL r ks) := by
  refine ⟨?_, fun k hk' => ?_⟩
  · unfold bordL
    rw [bord_len hl.symm]
    congr 1
    conv => rhs; unfold rimL
    apply List.filter_congr
    intro s hs
    unfold rimL
    simp [hs]
  · unfold bordL at hk'
    obtain ⟨x, hx, rfl⟩ := List.mem_map.mp hk'
    exact hk _ (List.of_mem_zip (List.mem_filter.mp hx).1).2
def s_law_border : SpD := fun ds M Q => ∃ (r : List Pt) (ks : List Int), ds = [roomD r, intsT ks] ∧ r.length ≤ 1000 ∧ Q (intsT (bordL r ks)) M
theorem ok__law_border {X : Cx} (B : Bs X) : Dn X "_law_border" 3 ["_law_ground", "_law_laid_so"] s_law_border := by
  refine def_by B 73 58 58 (k := 2) (N := ["_law_ground", "_law_laid_so", "_law_rim_so", "_law_spot", "_law_own"]) rfl rfl ⟨rfl, rfl, rfl, by decide +kernel, rfl, by decide +kernel, by decide +kernel⟩ (fun _ _ _ _ _ _ us hl => match us, hl with | [_, _], _ => rfl) ?len ?body
  case len => rintro _ _ _ ⟨_, _, rfl, _⟩; rfl
  case body =>
    rintro X' h B _ M QD ⟨r, ks, rfl, hl, q⟩
    refine wss_cons (ws_set h 2 rfl rfl (DE.to (de_call h (ok__law_rim B) rfl (da_cN (de_var h 0 rfl rfl rfl) da_nil) ⟨r, rfl, hl, rfl, rfl⟩) ?_))
    refine wss_one (ws_ret (DE.to (d := intsT (bordL r ks)) (DE.as (de_callTy h rfl B.f_tuple boot_tuple (da_cons (DO.frz (do_lcA h B (r.zip ks) (fun x => .tup [sqD x.1, .int x.2]) (fun x => decide (x.1 ∈ rimL r)) (fun x => .int x.2) [("_law_spot", 3), ("_law_own", 4)] (tg_pair h 3 4 rfl rfl rfl rfl (by simp) (by simp)) rfl
      ⟨wi_zp h rfl B.f_zip ((da_cons (de_var h 0 rfl rfl rfl) (da_cons (de_var h 1 rfl rfl rfl) da_nil)).to ⟨_, _, r.map sqD, ks.map .int, rfl, .tup, .tup, zp_typed r ks, fun _ => ⟨.tup, .tup⟩, rfl⟩), by rw [List.length_zip]; omega, fun x hx => ⟨_, rfl, fun X' ⟨h, B, _⟩ m => dt_cmp (de_var h 3 rfl rfl rfl) (de_var h 2 rfl rfl rfl) (wo_in h .id .tup (datB_sq 59 x.1) (datB_sqs 59 _) ⟨congrArg D.bl (anyD_sq _ _), rfl⟩), fun _ X' ⟨h, B, _⟩ m => (de_var h 4 rfl rfl rfl)⟩⟩)) da_nil) (wc_tuple .lst ⟨rfl, rfl⟩)) (by unfold bordL; show D.tup _ = D.tup _; rw [List.map_map]; rfl)) (.now q)))
end DL

set_option maxHeartbeats 8000000
/-! walks: _law_plan. -/
namespace DL
open PySem PySem.Spec PyProof.Rows L2 Evl

local macro_rules
  | `(tactic| walk_at "op") => `(tactic| first
    | exact wo_add ⟨rfl, rfl⟩ | exact wo_sub ⟨rfl, rfl⟩ | exact wo_lt ⟨rfl, rfl⟩ | exact wo_le ⟨rfl, rfl⟩ | exact wo_gt ⟨rfl, rfl⟩ | exact wo_ge ⟨rfl, rfl⟩
    | exact wo_eqi ⟨rfl, rfl⟩ | exact wo_nei ⟨rfl, rfl⟩ | exact wo_eqb ⟨rfl, rfl⟩ | exact wo_neb ⟨rfl, rfl⟩ | exact wo_isN ⟨rfl, rfl⟩ | exact wo_notN ⟨rfl, rfl⟩)
  | `(tactic| walk_at "sq") => `(tactic| first | exact Sq.tup | exact Sq.lst | exact Sq.tupN | exact Sq.ref _ rfl)
  | `(tactic| walk_at "at") => `(tactic| first | rfl | assumption)
  | `(tactic| walk_at "isi") => `(tactic| first | exact wc_isI (by assumption) ⟨rfl, rfl⟩ | exact wc_isB (by assumption) ⟨rfl, rfl⟩ | exact wc_isT (by assumption) ⟨rfl, rfl⟩ | exact wc_isL (by assumption) ⟨rfl, rfl⟩ | exact wc_isLT (by assumption) ⟨rfl, rfl⟩ | exact wc_isBS (by assumption) ⟨rfl, rfl⟩)
  | `(tactic| walk_at "len") => `(tactic| exact wc_len (by first | exact Sq.tup | exact Sq.lst | exact Sq.tupN | exact Sq.ref _ rfl) ⟨rfl, rfl⟩)
  | `(tactic| walk_at "tuple") => `(tactic| exact wc_tuple (by first | exact Sq.lst | exact Sq.tup | exact Sq.tupN | exact Sq.ref _ rfl) ⟨rfl, rfl⟩)
  | `(tactic| walk_at "all") => `(tactic| exact wc_all (by assumption) (by first | exact SqO.lst | exact SqO.ref _ rfl) ⟨rfl, rfl⟩)

local macro_rules
  | `(tactic| walk_at "is_number") => `(tactic| exact ⟨_, rfl, by assumption, rfl, rfl⟩)
  | `(tactic| walk_at "tupled") => `(tactic| exact ⟨_, rfl, by assumption, rfl, rfl⟩)

def optD : Option Nat → D
  | none => .non
  | some j => .int (j : Int)
abbrev natD (j : Nat) : D := .int (j : Int)
def numK (r : List Pt) : List (NK × D) := putsN [] (tabN (fun x : Pt × Nat => sk x.1) (fun x => natD x.2) r.zipIdx)
theorem num_look (n : Pt) : ∀ (l : List Pt) (k : Nat), (tabN (fun x : Pt × Nat => sk x.1) (fun x => natD x.2) (l.zipIdx k)).lookup (sk n) = if n ∈ l then some (natD (k + l.idxOf n)) else none
  | [], k => by simp [tabN]
  | s :: l, k => by
    have ih := num_look n l (k + 1)
    have e0 : tabN (fun x : Pt × Nat => sk x.1) (fun x => natD x.2) ((s :: l).zipIdx k) = (sk s, natD k) :: tabN (fun x : Pt × Nat => sk x.1) (fun x => natD x.2) (l.zipIdx (k + 1)) := by simp [tabN, List.zipIdx_cons]
    rw [e0, lk_cons, ih]
    by_cases e : n = s
    · subst e; simp
    · have e2 : ¬ sk n = sk s := fun z => e (sk_inj z)
      rw [if_neg e2]
      have e3 : (s == n) = false := by simpa using fun z : s = n => e z.symm
      by_cases hm : n ∈ l
      · rw [if_pos hm, if_pos (List.mem_cons_of_mem _ hm), List.idxOf_cons, e3]
        simp only [cond_false]
        congr 2
        omega
      · rw [if_neg hm, if_neg (by simp [e, hm])]
theorem num_at {r : List Pt} (nd : r.Nodup) (n : Pt) : (numK r).lookup (sk n) = (ndO r n).map natD := by
  unfold numK
  rw [putsN_nodup, num_look n r 0]
  · unfold ndO
    by_cases h : n ∈ r <;> simp [h]
  · unfold tabN
    rw [List.map_map]
    have : (r.zipIdx.map ((fun x : NK × D => x.1) ∘ fun x : Pt × Nat => (sk x.1, natD x.2))) = r.map sk := by
      rw [show ((fun x : NK × D => x.1) ∘ fun x : Pt × Nat => (sk x.1, natD x.2)) = sk ∘ Prod.fst from rfl, ← List.map_map, List.zipIdx_map_fst]
    rw [this]
    exact List.Pairwise.map _ (fun a b ne e => ne (sk_inj e)) nd
theorem lookup_putI (kvs : List (Int × D)) (i k' : Int) (d : D) : (putI kvs i d).lookup k' = if k' = i then some d else kvs.lookup k' := by
  unfold putI
  split
  · rename_i h
    rw [lk_rep]
    by_cases e : k' = i
    · subst e
      rw [if_pos rfl, if_pos rfl]
      obtain ⟨y, hy⟩ := Option.isSome_iff_exists.mp h
      rw [hy]; rfl
    · rw [if_neg e, if_neg e]
  · rename_i h
    rw [lk_app, lk_cons]
    by_cases e : k' = i
    · subst e
      rw [if_pos rfl, if_pos rfl]
      cases z : kvs.lookup k' with
      | none => rfl
      | some y => rw [z] at h; exact absurd rfl h
    · rw [if_neg e, if_neg e]
      cases kvs.lookup k' <;> simp
theorem putI_len {kvs : List (Int × D)} {i : Int} {d : D} : (putI kvs i d).length ≤ kvs.length + 1 := by
  unfold putI
  split
  · rw [List.length_map]; omega
  · simp
def needD (r : List Pt) (p : Pt) : D := .lst ((ndL r p).map optD)
def lastI (r : List Pt) (j : Nat) : Int := match lastV r r.length j with
  | some m => m
  | none => -1
theorem stays_last {r : List Pt} {k j : Nat} : stays r k j = decide ((k : Int) < lastI r j) := by
  unfold stays lastI
  cases lastV r r.length j with
  | none => simp <;> omega
  | some m => simp
def LastOk (r : List Pt) (f : Nat → Option Nat) (kvs : List (Int × D)) : Prop := ∀ j : Nat, kvs.lookup (j : Int) = (f j).map natD
theorem last_get {r : List Pt} {kvs : List (Int × D)} (h : LastOk r (lastV r r.length) kvs) (j : Nat) : (kvs.lookup (j : Int)).getD (.int (-1)) = .int (lastI r j) := by
  rw [h j]
  unfold lastI
  cases lastV r r.length j <;> rfl
/-- a step of the plan -/
def stepOf (r : List Pt) (k : Nat) : D := .tup [.lst ((placesL r k).map optD), .bl (eastB r (sqAt r k)), .bl (southB r (sqAt r k)), .lst ((movedL r k).map .int)]
abbrev planEnv (r : List Pt) (o2 o3 o4 o5 o6 o7 o8 o9 o10 o11 o12 o13 o14 o15 : Option D) : EnvD := [some (roomD r), some (.dic (numK r)), o2, o3, o4, o5, o6, o7, o8, o9, o10, o11, o12, o13, o14, o15]
theorem nat_cast_inj {l : List Nat} {j m : Nat} (h : (l.map fun x : Nat => (x : Int))[m]? = some (j : Int)) : l[m]? = some j := by
  rw [List.getElem?_map] at h
  cases e : l[m]? with
  | none => rw [e] at h; cases h
  | some y =>
    rw [e] at h
    simp only [Option.map_some, Option.some.injEq] at h
    congr 1
    omega
theorem idx_first {l : List Nat} {j : Nat} (h : j ∈ l) : (l.map fun x : Nat => (x : Int))[l.idxOf j]? = some (j : Int) ∧ ∀ m, m < l.idxOf j → (l.map fun x : Nat => (x : Int))[m]? ≠ some (j : Int) := by
  have hl := List.idxOf_lt_length_iff.mpr h
  refine ⟨by rw [List.getElem?_map, List.getElem?_eq_getElem hl, List.getElem_idxOf]; rfl, fun m hm e => ?_⟩
  have e2 := nat_cast_inj e
  obtain ⟨h1, h2⟩ := List.getElem?_eq_some_iff.mp e2
  have := List.not_of_lt_findIdx (p := (· == j)) (xs := l) (i := m) hm
  simp [h2] at this
def s_law_plan : SpD := fun ds M Q => ∃ r : List Pt, ds = [roomD r] ∧ Rm r ∧ Q (.lst ((List.range r.length).map (stepOf r))) M
theorem ok__law_plan {X : Cx} (B : Bs X) : Dn X "_law_plan" 2 ["_law_ground"] s_law_plan := by
  refine def_by B 66 51 51 (k := 1) (N := ["_law_ground", "_law_number_so", "_law_k", "_law_own", "_law_needs_so", "_law_x", "_law_y", "_law_near_so", "_law_last_so", "_law_row_so", "_law_found", "_law_kept_so", "_law_spot", "_law_places_so", "_law_later_so", "_law_moved_so"]) rfl rfl ⟨rfl, rfl, rfl, by decide +kernel, rfl, by decide +kernel, by decide +kernel⟩ (fun _ _ _ _ _ _ us hl => match us, hl with | [_], _ => rfl) ?len ?body
  case len => rintro _ _ _ ⟨_, rfl, _⟩; rfl
  case body =>
    rintro X' h B _ M QD ⟨r, rfl, hr, q⟩
    have hl := hr.len
    have nd := hr.nd
    refine wss_cons (ws_set h 1 rfl rfl (DE.to (d := .dic (numK r)) (DO.frz (mo := .dic (numK r)) (do_callTy h rfl B.f_dict boot_dict (da_cons (DO.frz (do_lcM h B r.zipIdx (enP sqD) (fun x : Pt × Nat => .tup [keyD (sk x.1), natD x.2]) [("_law_k", 2), ("_law_own", 3)] (tg_pair h 2 3 rfl rfl rfl rfl (by simp) (by simp)) rfl
      ⟨wi_enE h rfl B.f_enumerate (de_var h 0 rfl rfl rfl) (fun _ => .tup) rfl, by rw [List.length_zipIdx]; omega, fun x hx => ⟨_, rfl, fun X' ⟨h, B, _⟩ m => de_tup (da_cons (DE.as (de_var h 3 rfl rfl rfl) (sk_D x.1).symm) (da_cons (de_var h 2 rfl rfl rfl) da_nil))⟩⟩)) da_nil)
      (wc_dict h (.l (by rw [MO.frz, ← tab_prD (key := fun x : Pt × Nat => sk x.1) (val := fun x : Pt × Nat => natD x.2) (l := r.zipIdx)]; exact .lst)) (tab_ok (key := fun x : Pt × Nat => sk x.1) fun x => sk_ok x.1) (by simp [tabN]; omega) fun p => ⟨p, rfl, rfl⟩))) ?_))
    refine wss_cons (ws_set h 4 rfl rfl (DO.to (do_lst da_nil) fun pn => ?_))
    refine wss_cons (ws_forT h r sqD (fun i ρ' M' => ∃ o3 o5 o6 o7, ρ' = planEnv r none o3 (some (.ref pn)) o5 o6 o7 none none none none none none none none ∧ M' = (pn, .lst ((r.take i).map (needD r))) :: M) (fi_tup (de_var h 0 rfl rfl rfl) rfl) ⟨none, none, none, none, rfl, rfl⟩ ?_ ?_)
    · rintro i s ρ' M' hx ⟨o3, o5, o6, o7, rfl, rfl⟩
      refine wg_tup h (wgs_cons h 5 rfl rfl (wgs_cons h 6 rfl rfl (wgs_nil ?_))) rfl
      refine wss_cons (ws_set h 7 rfl rfl (DE.to (d := .lst ((near4 s).map sqD)) (DE.as (do_lst (da_cT (de_tup (da_cB (de_bin (de_var h 5 rfl rfl rfl) de_int (by walk_at "op")) (da_cN (de_var h 6 rfl rfl rfl) da_nil))) (da_cT (de_tup (da_cN (de_var h 5 rfl rfl rfl) (da_cB (de_bin (de_var h 6 rfl rfl rfl) de_int (by walk_at "op")) da_nil))) (da_cT (de_tup (da_cB (de_bin (de_var h 5 rfl rfl rfl) de_int (by walk_at "op")) (da_cB (de_bin (de_var h 6 rfl rfl rfl) de_int (by walk_at "op")) da_nil))) (da_cT (de_tup (da_cB (de_bin (de_var h 5 rfl rfl rfl) de_int (by walk_at "op")) (da_cB (de_bin (de_var h 6 rfl rfl rfl) de_int (by walk_at "op")) da_nil))) da_nil))))).frz rfl) ?_))
      refine wss_one (ws_append 0 (de_var h 4 rfl rfl rfl) (DE.as (d' := needD r s) (DO.frz (do_lcM h B (near4 s) sqD (fun n => optD (ndO r n)) [("_law_own", 3)] (tg_name h 3 rfl rfl (by simp)) rfl ⟨wi_lstE (de_var h 7 rfl rfl rfl) rfl, by simp [near4], fun n _ => ⟨_, rfl, fun X' ⟨h, B, _⟩ m => ?_⟩⟩)) (by unfold needD ndL; rw [List.map_map]; rfl)) rfl (by rw [List.length_map]; have := take_len r i 16 hl; omega) ⟨_, _, _, _, rfl, ?_⟩)
      · have hn := num_at nd n
        refine we_ifE (DT.to (dt_cmp (de_var h 3 rfl rfl rfl) (de_var h 1 rfl rfl rfl) (wo_inN h (sk_ok n) (sk_D n).symm .dic ⟨rfl, rfl⟩)) ⟨fun c => ?_, fun c => ?_⟩)
        · cases e : ndO r n with
          | none => rw [hn, e] at c; cases c
          | some j => exact DE.as (d := natD j) (de_at h .dic (de_var h 1 rfl rfl rfl) (de_var h 3 rfl rfl rfl) (sk_ok n) (sk_D n).symm (by rw [hn, e]; rfl)) (by show _ = optD (ndO r n); rw [e]; rfl)
        · cases e : ndO r n with
          | none => exact DE.as (d := .non) de_non (by show _ = optD (ndO r n); rw [e]; rfl)
          | some j => rw [hn, e] at c; cases c
      · show (pn, MO.lst _) :: M = _
        rw [List.take_succ, hx]
        simp
    · rintro ρ' M' ⟨o3, o5, o6, o7, rfl, rfl⟩
      rw [List.take_length]
      refine wss_fz 4 rfl ?_
      refine wss_cons (ws_set h 8 rfl rfl (wo_dik0 fun pl => ?_))
      refine wss_cons (ws_forT h r.zipIdx (enP (needD r)) (fun i ρ' M' => ∃ o2 o3 o9 kvs, ρ' = planEnv r o2 o3 (some (.lst (r.map (needD r)))) o5 o6 o7 (some (.ref pl)) o9 none none none none none none ∧ M' = (pl, .dik kvs) :: M ∧ LastOk r (lastV r i) kvs ∧ kvs.length ≤ 4 * i)
        (fi_en h (xs := r.map (needD r)) rfl B.f_enumerate (de_var h 4 rfl rfl rfl) (fun _ => .lst) rfl) ⟨none, o3, none, [], rfl, rfl, fun j => rfl, by simp⟩ ?_ ?_)
      · rintro i ⟨s, i'⟩ ρ' M' hx ⟨o2, o3, o9, kvs, rfl, rfl, hlo, hkl⟩
        obtain ⟨hx1, rfl⟩ := zipIdx_get hx
        have hi : i' < r.length := (List.getElem?_eq_some_iff.mp hx1).1
        have hs := sqAt_get hx1
        refine wg_tup h (wgs_cons h 2 rfl rfl (wgs_cons h 9 rfl rfl (wgs_nil ?_))) rfl
        refine wss_one (ws_forT h (ndL r s) optD (fun t ρ' M' => ∃ o3 kvs, ρ' = planEnv r (some (natD i')) o3 (some (.lst (r.map (needD r)))) o5 o6 o7 (some (.ref pl)) (some (needD r s)) none none none none none none ∧ M' = (pl, .dik kvs) :: M ∧ LastOk r (fun j => if some j ∈ (ndL r s).take t then some i' else lastV r i' j) kvs ∧ kvs.length ≤ 4 * i' + t)
          (fi_lst (de_var h 9 rfl rfl rfl) rfl) ⟨o3, kvs, rfl, rfl, by simpa using hlo, by omega⟩ ?_ ?_)
        · rintro t o ρ' M' ht ⟨o3, kvs, rfl, rfl, hlo, hkl⟩
          have ht4 : t < 4 := by have := (List.getElem?_eq_some_iff.mp ht).1; rwa [ndL_len] at this
          refine wg_name h 3 rfl rfl ?_
          refine wss_one (ws_if (DT.to (dt_cmp (de_var h 3 rfl rfl rfl) de_non (wo_notN ⟨rfl, rfl⟩)) ⟨fun c => ?_, fun c => wss_nil ⟨_, kvs, rfl, rfl, fun j => ?_, by omega⟩⟩))
          · cases o with
            | none => cases c
            | some j0 =>
              refine wss_one (ws_asg (DE.to (de_var h 2 rfl rfl rfl) (wg_sub (DE.to (de_var h 8 rfl rfl rfl) (DE.to (d := .int (j0 : Int)) (de_var h 3 rfl rfl rfl) (wst_dik h 0 rfl (by omega) ⟨_, _, rfl, rfl, fun j => ?_, ?_⟩))))))
              · rw [lookup_putI, List.take_succ, ht]
                dsimp only
                by_cases e : j = j0
                · subst e
                  rw [if_pos rfl, if_pos (by simp)]; rfl
                · have e2 : ¬ (j : Int) = j0 := by omega
                  rw [if_neg e2, hlo j]
                  dsimp only
                  by_cases z : some j ∈ (ndL r s).take t
                  · rw [if_pos z, if_pos (by simp [z])]
                  · rw [if_neg z, if_neg (by simp [z, e])]
              · have := putI_len (kvs := kvs) (i := (j0 : Int)) (d := natD i')
                omega
          · cases o with
            | some j0 => cases c
            | none =>
              rw [hlo j, List.take_succ, ht]
              dsimp only
              by_cases z : some j ∈ (ndL r s).take t
              · rw [if_pos z, if_pos (by simp [z])]
              · rw [if_neg z, if_neg (by simp [z])]
        · rintro ρ' M' ⟨o3, kvs, rfl, rfl, hlo, hkl⟩
          rw [ndL_len] at hkl
          refine ⟨_, _, _, _, rfl, rfl, fun j => ?_, by omega⟩
          rw [hlo j, List.take_length]
          simp only [lastV, hs]
      · rintro ρ' M' ⟨o2, o3, o9, kvs, rfl, rfl, hlo, hkl⟩
        rw [List.length_zipIdx] at hlo hkl
        refine wss_fz 8 rfl ?_
        refine wss_cons (ws_asg (we_tup (wa_cons (DO.to (do_lst da_nil) fun pf => wa_cons (DE.to (do_lst da_nil).frz (wa_nil ⟨by simp, wg_tup h (wgs_cons h 10 rfl rfl (wgs_cons h 11 rfl rfl (wgs_nil ?_))) rfl⟩))))) (hw := h.sw0 fun E e => by cases E; cases e; rfl))
        refine wss_cons (ws_forT h r.zipIdx (enP sqD) (fun i ρ' M' => ∃ o2 o3 o12 o13 o14 o15, ρ' = planEnv r o2 o3 (some (.lst (r.map (needD r)))) o5 o6 o7 (some (.dik kvs)) o9 (some (.ref pf)) (some (.lst ((kepP r i).map natD))) o12 o13 o14 o15 ∧ M' = (pf, .lst ((List.range i).map (stepOf r))) :: M)
          (fi_en h (xs := r.map sqD) rfl B.f_enumerate (de_var h 0 rfl rfl rfl) (fun _ => .tup) rfl) ⟨o2, o3, none, none, none, none, rfl, rfl⟩ ?_ ?_)
        · rintro i ⟨s, i'⟩ ρ' M' hx ⟨o2, o3, o12, o13, o14, o15, rfl, rfl⟩
          obtain ⟨hx1, rfl⟩ := zipIdx_get hx
          have hi : i' < r.length := (List.getElem?_eq_some_iff.mp hx1).1
          have hs := sqAt_get hx1
          have hkeep := kept_len (r := r) i'
          have hkeep2 := kept_len (r := r) (i' + 1)
          refine wg_tup h (wgs_cons h 2 rfl rfl (wgs_cons h 12 rfl rfl (wgs_nil ?_))) rfl
          refine wss_cons (ws_lcM h B 13 (ndL r s) optD (fun o => optD (o.map fun j => (kepP r i').idxOf j)) [("_law_own", 3)] (tg_name h 3 rfl rfl (by simp)) rfl ⟨wi_lstE (de_ix (de_var h 4 rfl rfl rfl) (de_var h 2 rfl rfl rfl) .lst (L2.atI_nat (by rw [List.getElem?_map, hx1]; rfl))) rfl, by rw [ndL_len]; omega, fun o ho => ⟨_, rfl, fun X' ⟨h, B, _⟩ m => ?_⟩⟩ fun p => ?_)
          · refine we_ifE (DT.to (dt_cmp (de_var h 3 rfl rfl rfl) de_non (wo_isN ⟨rfl, rfl⟩)) ⟨fun c => ?_, fun c => ?_⟩)
            · cases o with
              | none => exact de_non
              | some j => cases c
            · cases o with
              | none => cases c
              | some j =>
                have hj := idx_first (need_kept hr.asc nd hi (by rw [hs]; exact ho))
                exact de_indexI (ns := (kepP r i').map fun x : Nat => (x : Int)) (j := (kepP r i').idxOf j) (by rw [List.map_map]; exact .lst) (de_var h 11 rfl rfl rfl) (de_var h 3 rfl rfl rfl) hj.1 hj.2
          refine wss_fz 13 rfl ?_
          refine wss_cons (ws_lcA h B 14 (kepP r i' ++ [i']) natD (stays r i') natD [("_law_own", 3)] (tg_name h 3 rfl rfl (by simp)) rfl ⟨wi_lstE (DO.frz (do_bin (de_var h 11 rfl rfl rfl) (do_lst (da_cN (de_var h 2 rfl rfl rfl) da_nil)).frz (wo_cat .lst .lst (by simp; omega) fun p => ⟨p, rfl, rfl⟩))) (by simp), by simp; omega, fun j hj => ⟨_, rfl, fun X' ⟨h, B, _⟩ m => ?_, fun _ X' ⟨h, B, _⟩ m => (de_var h 3 rfl rfl rfl)⟩⟩ fun p2 => ?_)
          · exact dt_cmp (de_getI h .dik (de_var h 8 rfl rfl rfl) (de_var h 3 rfl rfl rfl) (de_neg de_int) (last_get hlo j)) (de_var h 2 rfl rfl rfl) (wo_gt ⟨by rw [stays_last], rfl⟩)
          refine wss_fz 14 rfl ?_
          refine wss_cons (ws_lcM h B 15 (kepP r (i' + 1)) natD (fun j => .int (if j = i' then -1 else ((kepP r i').idxOf j : Int))) [("_law_own", 3)] (tg_name h 3 rfl rfl (by simp)) rfl ⟨wi_lstE (de_var h 14 rfl rfl rfl) rfl, by omega, fun j hj => ⟨_, rfl, fun X' ⟨h, B, _⟩ m => ?_⟩⟩ fun p3 => ?_)
          · refine we_ifE (DT.to (dt_cmp (de_var h 3 rfl rfl rfl) (de_var h 2 rfl rfl rfl) (wo_eqi ⟨rfl, rfl⟩)) ⟨fun c => ?_, fun c => ?_⟩)
            · have e : j = i' := by have := of_decide_eq_true c; omega
              exact DE.as (d := .int (-1)) (de_neg de_int) (by show _ = D.int (if j = i' then -1 else _); rw [if_pos e])
            · have e : ¬ j = i' := by have := of_decide_eq_false c; omega
              have hk : j ∈ kepP r i' := by
                simp only [kepP, List.mem_filter, List.mem_append, List.mem_singleton] at hj
                rcases hj.1 with z | z
                · exact z
                · exact absurd z e
              have hj := idx_first hk
              exact DE.as (d := .int ((kepP r i').idxOf j : Int)) (de_indexI (ns := (kepP r i').map fun x : Nat => (x : Int)) (j := (kepP r i').idxOf j) (by rw [List.map_map]; exact .lst) (de_var h 11 rfl rfl rfl) (de_var h 3 rfl rfl rfl) hj.1 hj.2) (by show _ = D.int (if j = i' then -1 else _); rw [if_neg e])
          refine wss_fz 15 rfl ?_
          have ee : ∀ k : Int, (k = 1 ∨ k = 2) → ((numK r).lookup (sk (led s k))).isSome = decide (led s k ∈ r) := fun k _ => by
            rw [num_at nd]; unfold ndO; by_cases z : led s k ∈ r <;> simp [z]
          refine wss_cons (ws_append 0 (de_var h 10 rfl rfl rfl) (DE.as (d' := stepOf r i') (de_tup (da_cons (de_var h 13 rfl rfl rfl) (da_cons (de_cmp (de_call h (ok__law_over B) rfl (da_cN (de_var h 12 rfl rfl rfl) (da_cC de_int da_nil)) ⟨s, 1, rfl, by simp [kindsL], rfl, rfl⟩) (de_var h 1 rfl rfl rfl) (wo_inN h (sk_ok (led s 1)) (sk_D _).symm .dic ⟨rfl, rfl⟩)) (da_cons (de_cmp (de_call h (ok__law_over B) rfl (da_cN (de_var h 12 rfl rfl rfl) (da_cC de_int da_nil)) ⟨s, 2, rfl, by simp [kindsL], rfl, rfl⟩) (de_var h 1 rfl rfl rfl) (wo_inN h (sk_ok (led s 2)) (sk_D _).symm .dic ⟨rfl, rfl⟩)) (da_cons (de_var h 15 rfl rfl rfl) da_nil))))) ?e) rfl (by simp; omega) ?_)
          case e =>
            unfold stepOf placesL movedL eastB southB
            rw [hs, ee 1 (.inl rfl), ee 2 (.inr rfl), List.map_map, List.map_map]
            rfl
          refine wss_one (ws_set h 11 rfl rfl (DE.to (de_var h 14 rfl rfl rfl) ⟨_, _, _, _, _, _, rfl, ?_⟩))
          show (pf, MO.lst _) :: M = _
          rw [List.range_succ, List.map_append]
          rfl
        · rintro ρ' M' ⟨o2, o3, o12, o13, o14, o15, rfl, rfl⟩
          rw [List.length_zipIdx]
          exact wss_one (ws_ret (DE.to (de_var h 10 rfl rfl rfl) ⟨_, _, [(pf, _)], rfl, .ref (List.mem_singleton.mpr rfl), q⟩))
end DL

set_option maxHeartbeats 8000000
/-! walks: _law_kinds_next, _law_moved_on, _law_lets_of, _law_floors. -/
namespace DL
open PySem PySem.Spec PyProof.Rows L2 Evl

local macro_rules
  | `(tactic| walk_at "op") => `(tactic| first
    | exact wo_add ⟨rfl, rfl⟩ | exact wo_sub ⟨rfl, rfl⟩ | exact wo_lt ⟨rfl, rfl⟩ | exact wo_le ⟨rfl, rfl⟩ | exact wo_gt ⟨rfl, rfl⟩ | exact wo_ge ⟨rfl, rfl⟩
    | exact wo_eqi ⟨rfl, rfl⟩ | exact wo_nei ⟨rfl, rfl⟩ | exact wo_eqb ⟨rfl, rfl⟩ | exact wo_neb ⟨rfl, rfl⟩ | exact wo_isN ⟨rfl, rfl⟩ | exact wo_notN ⟨rfl, rfl⟩)
  | `(tactic| walk_at "sq") => `(tactic| first | exact Sq.tup | exact Sq.lst | exact Sq.tupN | exact Sq.ref _ rfl)
  | `(tactic| walk_at "at") => `(tactic| first | rfl | assumption)
  | `(tactic| walk_at "isi") => `(tactic| first | exact wc_isI (by assumption) ⟨rfl, rfl⟩ | exact wc_isB (by assumption) ⟨rfl, rfl⟩ | exact wc_isT (by assumption) ⟨rfl, rfl⟩ | exact wc_isL (by assumption) ⟨rfl, rfl⟩ | exact wc_isLT (by assumption) ⟨rfl, rfl⟩ | exact wc_isBS (by assumption) ⟨rfl, rfl⟩)
  | `(tactic| walk_at "len") => `(tactic| exact wc_len (by first | exact Sq.tup | exact Sq.lst | exact Sq.tupN | exact Sq.ref _ rfl) ⟨rfl, rfl⟩)
  | `(tactic| walk_at "tuple") => `(tactic| exact wc_tuple (by first | exact Sq.lst | exact Sq.tup | exact Sq.tupN | exact Sq.ref _ rfl) ⟨rfl, rfl⟩)
  | `(tactic| walk_at "all") => `(tactic| exact wc_all (by assumption) (by first | exact SqO.lst | exact SqO.ref _ rfl) ⟨rfl, rfl⟩)

local macro_rules
  | `(tactic| walk_at "is_number") => `(tactic| exact ⟨_, rfl, by assumption, rfl, rfl⟩)
  | `(tactic| walk_at "tupled") => `(tactic| exact ⟨_, rfl, by assumption, rfl, rfl⟩)

def optI : Option Int → D
  | none => .non
  | some j => .int j
theorem datB_opt (n : Nat) (w : Option Int) : datB n (optI w) = true := by cases w <;> cases n <;> rfl
theorem eqD_ii (i j : Int) : eqD (.int i) (.int j) = decide (i = j) := by
  unfold eqD
  simp only [toPy, PyData.eqv]
  first | rfl | (rw [Bool.eq_iff_iff]; simp)
theorem eqD_opt (w : Option Int) (k : Int) : eqD (optI w) (.int k) = decide (w = some k) := by
  cases w with
  | none => unfold eqD optI; simp [toPy, PyData.eqv]
  | some j => rw [show optI (some j) = .int j from rfl, eqD_ii]; simp
theorem eqD_opt' (w : Option Int) (k : Int) : eqD (.int k) (optI w) = decide (w = some k) := by
  cases w with
  | none => unfold eqD optI; simp [toPy, PyData.eqv]
  | some j => rw [show optI (some j) = .int j from rfl, eqD_ii]; simp [eq_comm]
theorem eqD_non (w : Option Int) : eqD (optI w) .non = decide (w = none) := by
  cases w with
  | none => unfold eqD optI; simp [toPy, PyData.eqv]
  | some j => unfold eqD optI; simp [toPy, PyData.eqv]
def nearO (st : List Int) (places : List (Option Nat)) : List (Option Int) := places.map (Option.map fun i => st.getD i 0)
theorem getD_atI {st : List Int} {i : Nat} (h : i < st.length) : L2.atI (st.map D.int) (i : Int) = some (.int (st.getD i 0)) :=
  L2.atI_nat (by rw [List.getElem?_map, List.getD_eq_getElem?_getD, List.getElem?_eq_getElem h]; rfl)
theorem rep_len (b : Bool) (d : D) : ((List.replicate (if b = true then (1 : Int) else 0).toNat [d]).flatten).length ≤ 1 := by cases b <;> simp
def s_law_kinds_next : SpD := fun ds M Q => ∃ (places : List (Option Nat)) (e s : Bool) (mv : List D) (st : List Int) (dl : D) (lets : List Int), ds = [.tup [.lst (places.map optD), .bl e, .bl s, .lst mv], intsT st, dl] ∧ places.length = 4 ∧ (∀ i, some i ∈ places → i < st.length) ∧
  (∀ M', Sq M' dl (lets.map .int)) ∧ Q (.lst (((nextK (nearO st places) e s).filter fun x => decide (x ∈ lets)).map .int)) M
theorem ok__law_kinds_next {X : Cx} (B : Bs X) : Dn X "_law_kinds_next" 1 ["_law_step_so", "_law_state_so", "_law_let_so"] s_law_kinds_next := by
  refine def_by B 67 52 52 (k := 0) (N := ["_law_step_so", "_law_state_so", "_law_let_so", "_law_near_so", "_law_own", "_law_west_so", "_law_north_so", "_law_corner_so", "_law_below_so", "_law_found"]) rfl rfl ⟨rfl, rfl, rfl, by decide +kernel, rfl, by decide +kernel, by decide +kernel⟩ (fun _ _ _ _ _ _ us hl => match us, hl with | [_, _, _], _ => rfl) ?len ?body
  case len => rintro _ _ _ ⟨_, _, _, _, _, _, _, rfl, _⟩; rfl
  case body =>
    rintro X' h B _ M QD ⟨places, e, s, mv, st, dl, lets, rfl, hp4, hpl, hs, q⟩
    refine wss_cons (ws_lcM h B 3 places optD (fun o => optI (o.map fun i => st.getD i 0)) [("_law_own", 4)] (tg_name h 4 rfl rfl (by simp)) rfl ⟨wi_lstE (de_ix (de_var h 0 rfl rfl rfl) de_int .tup rfl) rfl, by omega, fun o ho => ⟨_, rfl, fun X' ⟨h, B, _⟩ m => ?_⟩⟩ fun p => ?_)
    · refine we_ifE (DT.to (dt_cmp (de_var h 4 rfl rfl rfl) de_non (wo_isN ⟨rfl, rfl⟩)) ⟨fun c => ?_, fun c => ?_⟩)
      · cases o with
        | none => exact de_non
        | some j => cases c
      · cases o with
        | none => cases c
        | some j => exact de_ix (de_var h 1 rfl rfl rfl) (de_var h 4 rfl rfl rfl) .tup (getD_atI (hpl j ho))
    refine wss_fz 3 rfl ?_
    have e0 : (MO.lst (places.map fun o => optI (o.map fun i => st.getD i 0))).frz = .lst ((nearO st places).map optI) := by
      unfold nearO
      rw [List.map_map]
      rfl
    rw [e0]
    have hn4 : (nearO st places).length = 4 := by unfold nearO; rw [List.length_map]; exact hp4
    generalize nearO st places = near at q hn4
    match near, hn4 with
    | [w, n, c, b], _ =>
      refine wss_cons (ws_asg (DE.to (de_var h 3 rfl rfl rfl) (wg_lst h .lst (wgs_cons h 5 rfl rfl (wgs_cons h 6 rfl rfl (wgs_cons h 7 rfl rfl (wgs_cons h 8 rfl rfl (wgs_nil ?_))))) rfl)))
      have key : ∀ fs : List Int, nextK [w, n, c, b] e s = fs → WSs X' ((defBody (TH.top 67)).drop 4) [some (.tup [.lst (places.map optD), .bl e, .bl s, .lst mv]), some (intsT st), some dl, some (.lst ([w, n, c, b].map optI)), none, some (optI w), some (optI n), some (optI c), some (optI b), some (.lst (fs.map .int))] M { nx := fun _ M' => Rtn QD .non M', rt := Rtn QD } := fun fs hf => by
        rw [hf] at q
        have hfl : fs.length ≤ 3 := by rw [← hf]; exact nextK_len _ _ _
        exact wss_one (ws_ret (DE.to (DO.frz (do_lcA h B fs .int (fun x => decide (x ∈ lets)) .int [("_law_own", 4)] (tg_name h 4 rfl rfl (by simp)) rfl ⟨wi_lstE (de_var h 9 rfl rfl rfl) rfl, by omega, fun x hx => ⟨_, rfl, fun X' ⟨h, B, _⟩ m => dt_cmp (de_var h 4 rfl rfl rfl) (de_var h 2 rfl rfl rfl) (wo_in h .id (hs _) rfl (fun e he => by obtain ⟨x, _, rfl⟩ := List.mem_map.mp he; rfl) ⟨congrArg D.bl (anyD_ints _ _), rfl⟩), fun _ X' ⟨h, B, _⟩ m => (de_var h 4 rfl rfl rfl)⟩⟩)) (.now q)))
      refine wss_cons (ws_if (DT.to (d := decide (w = some 1) && decide (n = some 2)) (DW.dt (dw_and (dt_cmp (de_var h 5 rfl rfl rfl) de_int (wo_eqD h .id .id (datB_opt _ _) rfl ⟨congrArg D.bl (eqD_opt w 1), rfl⟩)) fun _ => dw_and1 (dt_cmp (de_var h 6 rfl rfl rfl) de_int (wo_eqD h .id .id (datB_opt _ _) rfl ⟨congrArg D.bl (eqD_opt n 2), rfl⟩)))) ⟨fun ct => ?_, fun ct => wss_nil ?_⟩))
      · have h1 : w = some 1 ∧ n = some 2 := by simpa using ct
        rw [nextK_eq, if_pos h1] at q
        exact wss_one (ws_ret (DE.to (do_lst da_nil).frz (.now q)))
      have h1 : ¬ (w = some 1 ∧ n = some 2) := by
        rintro ⟨a1, a2⟩
        rw [a1, a2] at ct
        cases ct
      refine wss_cons (ws_if (DT.to (d := decide (w = some 1) || decide (n = some 2)) (DW.dt (dw_or (dt_cmp (de_var h 5 rfl rfl rfl) de_int (wo_eqD h .id .id (datB_opt _ _) rfl ⟨congrArg D.bl (eqD_opt w 1), rfl⟩)) fun _ => dw_or1 (dt_cmp (de_var h 6 rfl rfl rfl) de_int (wo_eqD h .id .id (datB_opt _ _) rfl ⟨congrArg D.bl (eqD_opt n 2), rfl⟩)))) ⟨fun ct2 => ?_, fun ct2 => ?_⟩))
      · have h2 : w = some 1 ∨ n = some 2 := by simpa using ct2
        refine wss_one (ws_set h 9 rfl rfl (DE.to (d := .lst ([if w = some 1 then 3 else 4].map .int)) (DE.as ((do_lst (da_cons (de_ifE (t := decide (w = some 1)) (dt_cmp (de_var h 5 rfl rfl rfl) de_int (wo_eqD h .id .id (datB_opt _ _) rfl ⟨congrArg D.bl (eqD_opt w 1), rfl⟩)) (fun _ => de_int) fun _ => de_int) da_nil)).frz) (by by_cases z : w = some 1 <;> simp [z, MO.frz])) (key _ (by rw [nextK_eq, if_neg h1, if_pos h2]))))
      · have h2 : ¬ (w = some 1 ∨ n = some 2) := by
          rintro (a | a) <;> rw [a] at ct2 <;> simp at ct2
        have e3 : D.lst (([D.int 0] ++ (List.replicate (if e = true then (1 : Int) else 0).toNat [D.int 1]).flatten) ++ (List.replicate (if (s && !eqD (optI b) (.int 1)) = true then (1 : Int) else 0).toNat [D.int 2]).flatten) = .lst (([0] ++ (if e then [1] else []) ++ (if s && decide (b ≠ some 1) then [2] else []) : List Int).map .int) := by
          rw [eqD_opt]
          cases e <;> cases s <;> by_cases z : b = some 1 <;> simp [z]
        refine wss_cons (ws_set h 9 rfl rfl (DE.to (DE.as (DO.frz (do_bin (DO.frz (do_bin (do_lst (da_cC de_int da_nil)).frz (DO.frz (do_bin (do_lst (da_cC de_int da_nil)).frz (de_callTy h rfl B.f_int boot_int (da_cons (de_ix (de_var h 0 rfl rfl rfl) de_int .tup rfl) da_nil) (wc_intB ⟨rfl, rfl⟩)) (wo_rep .lst (by cases e <;> decide) (by cases e <;> decide) fun p => ⟨p, rfl, rfl⟩))) (wo_cat .lst .lst (by cases e <;> simp) fun p => ⟨p, rfl, rfl⟩)))
          (DO.frz (do_bin (do_lst (da_cC de_int da_nil)).frz (de_callTy h rfl B.f_int boot_int (da_cons (de_and (de_ix (de_var h 0 rfl rfl rfl) de_int .tup rfl) fun _ => de_one (de_cmp (de_var h 8 rfl rfl rfl) de_int (wo_neD h .id .id (datB_opt _ _) rfl ⟨rfl, rfl⟩))) da_nil) (wc_intB ⟨rfl, rfl⟩)) (wo_rep .lst (by split <;> decide) (by split <;> decide) fun p => ⟨p, rfl, rfl⟩)))
          (wo_cat .lst .lst (by have z1 := rep_len e (.int 1); have z2 := rep_len (s && !eqD (optI b) (.int 1)) (.int 2); simp only [List.length_append, List.length_singleton]; omega) fun p => ⟨p, rfl, rfl⟩))) e3) ?_))
        have e4 : anyD [optI w, optI n, optI c] .non = (decide (w = none) || (decide (n = none) || decide (c = none))) := by
          simp [anyD, eqD_non]
        have e5 : anyD [.int 1, .int 2] (optI c) = (decide (c = some 1) || decide (c = some 2)) := by
          simp [anyD, eqD_opt']
        refine wss_one (ws_if (DT.to (DW.dt (dw_and (dt_cmp de_non (DE.as (d' := .lst [optI w, optI n, optI c]) (DO.frz (mo := .lst _) (wo_slice (DE.to (de_var h 3 rfl rfl rfl) ⟨rfl, ⟨3, rfl, de_int⟩, _, .lst, fun p => ⟨p, rfl, rfl⟩⟩))) rfl) (wo_nin h .id .lst rfl (fun d hd => by
            simp only [List.mem_cons, List.not_mem_nil, or_false] at hd
            rcases hd with rfl | rfl | rfl <;> exact datB_opt _ _) ⟨congrArg (fun z => D.bl (!z)) e4, rfl⟩)) fun _ => dw_and1 (dt_cmp (de_var h 7 rfl rfl rfl) (de_tup (da_cC de_int (da_cC de_int da_nil))) (wo_nin h .id .tup (datB_opt _ _) (fun d hd => by
            simp only [List.mem_cons, List.not_mem_nil, or_false] at hd
            rcases hd with rfl | rfl <;> rfl) ⟨congrArg (fun z => D.bl (!z)) e5, rfl⟩)))) ⟨fun ct3 => ?_, fun ct3 => wss_nil ?_⟩))
        · have h3 : (w ≠ none ∧ n ≠ none ∧ c ≠ none) ∧ ¬ (c = some 1 ∨ c = some 2) := by
            simpa [and_assoc, not_or] using ct3
          exact wss_one (ws_set h 9 rfl rfl (DE.to (d := .lst (([] : List Int).map .int)) (DE.as (do_lst da_nil).frz rfl) (key [] (by rw [nextK_eq, if_neg h1, if_neg h2, if_pos h3]))))
        · have h3 : ¬ ((w ≠ none ∧ n ≠ none ∧ c ≠ none) ∧ ¬ (c = some 1 ∨ c = some 2)) := fun z => by
            have : ((!(decide (w = none) || (decide (n = none) || decide (c = none)))) && !(decide (c = some 1) || decide (c = some 2))) = true := by
              simpa [and_assoc, not_or] using z
            rw [this] at ct3
            cases ct3
          exact key _ (by rw [nextK_eq, if_neg h1, if_neg h2, if_neg h3])

def s_law_moved_on : SpD := fun ds M Q => ∃ (d0 d1 d2 : D) (mv st : List Int) (x : Int), ds = [.tup [d0, d1, d2, .lst (mv.map .int)], intsT st, .int x] ∧ mv.length ≤ 1000 ∧ (∀ m ∈ mv, m = -1 ∨ 0 ≤ m ∧ m.toNat < st.length) ∧ Q (intsT (mv.map fun m => if m = -1 then cmpK x else st.getD m.toNat 0)) M
theorem ok__law_moved_on {X : Cx} (B : Bs X) : Dn X "_law_moved_on" 1 ["_law_step_so", "_law_state_so", "_law_kind_so"] s_law_moved_on := by
  refine def_by B 68 53 53 (k := 0) (N := ["_law_step_so", "_law_state_so", "_law_kind_so", "_law_mine_so", "_law_own"]) rfl rfl ⟨rfl, rfl, rfl, by decide +kernel, rfl, by decide +kernel, by decide +kernel⟩ (fun _ _ _ _ _ _ us hl => match us, hl with | [_, _, _], _ => rfl) ?len ?body
  case len => rintro _ _ _ ⟨_, _, _, _, _, _, rfl, _⟩; rfl
  case body =>
    rintro X' h B _ M QD ⟨d0, d1, d2, mv, st, x, rfl, hl, hm, q⟩
    refine wss_cons (ws_set h 3 rfl rfl (DE.to (d := .int (cmpK x)) (DE.as (de_ifE (dt_cmp (de_var h 2 rfl rfl rfl) de_int (by walk_at "op")) (fun c1 => (de_var h 2 rfl rfl rfl)) fun c1 => de_int) (by unfold cmpK; split <;> rename_i z <;> simp at z <;> simp [z]; omega)) ?_))
    refine wss_one (ws_ret (DE.to (d := intsT (mv.map fun m => if m = -1 then cmpK x else st.getD m.toNat 0)) (DE.as (de_callTy h rfl B.f_tuple boot_tuple (da_cons (DO.frz (do_lcM h B mv .int (fun m => .int (if m = -1 then cmpK x else st.getD m.toNat 0)) [("_law_own", 4)] (tg_name h 4 rfl rfl (by simp)) rfl ⟨wi_lstE (de_ix (de_var h 0 rfl rfl rfl) de_int .tup rfl) rfl, by omega, fun m hm' => ⟨_, rfl, fun X' ⟨h, B, _⟩ mm => ?_⟩⟩)) da_nil) (wc_tuple .lst ⟨rfl, rfl⟩)) (by show D.tup _ = D.tup _; rw [List.map_map]; rfl)) (.now q)))
    refine we_ifE (DT.to (dt_cmp (de_var h 4 rfl rfl rfl) (de_neg de_int) (wo_eqi ⟨rfl, rfl⟩)) ⟨fun c => ?_, fun c => ?_⟩)
    · have e : m = -1 := of_decide_eq_true c
      exact DE.as (d := .int (cmpK x)) (de_var h 3 rfl rfl rfl) (by show _ = D.int (if m = -1 then _ else _); rw [if_pos e])
    · have e : ¬ m = -1 := of_decide_eq_false c
      rcases hm m hm' with z | ⟨z1, z2⟩
      · exact absurd z e
      · have z3 : ((m.toNat : Nat) : Int) = m := Int.toNat_of_nonneg z1
        exact DE.as (d := .int (st.getD m.toNat 0)) (de_ix (de_var h 1 rfl rfl rfl) (de_var h 4 rfl rfl rfl) .tup (by rw [← getD_atI z2, z3])) (by show _ = D.int (if m = -1 then _ else _); rw [if_neg e])

def s_law_lets_of : SpD := fun ds M Q => ∃ (r : List Pt) (l : Lets), ds = [roomD r, letsD l] ∧ r.length ≤ 1000 ∧ l.length ≤ 1000 ∧ Q (.lst (r.map fun s => intsT (letF l s))) M
theorem ok__law_lets_of {X : Cx} (B : Bs X) : Dn X "_law_lets_of" 1 ["_law_ground", "_law_lets_so"] s_law_lets_of := by
  refine def_by B 69 54 54 (k := 0) (N := ["_law_ground", "_law_lets_so", "_law_told_so", "_law_own"]) rfl rfl ⟨rfl, rfl, rfl, by decide +kernel, rfl, by decide +kernel, by decide +kernel⟩ (fun _ _ _ _ _ _ us hl => match us, hl with | [_, _], _ => rfl) ?len ?body
  case len => rintro _ _ _ ⟨_, _, rfl, _⟩; rfl
  case body =>
    rintro X' h B _ M QD ⟨r, l, rfl, hr, hl, q⟩
    refine wss_cons (ws_set h 2 rfl rfl (DE.to (d := .dic (putsN [] (letsP l))) (DO.frz (mo := .dic _) (do_callTy h rfl B.f_dict boot_dict (da_cN (de_var h 1 rfl rfl rfl) da_nil) (wc_dict h .t (letsP_ok l) (by simp [letsP]; omega) fun p => ⟨p, rfl, rfl⟩))) ?_))
    exact wss_one (ws_ret (DE.to (DO.frz (do_lcM h B r sqD (fun s => intsT (letF l s)) [("_law_own", 3)] (tg_name h 3 rfl rfl (by simp)) rfl ⟨wi_tupE (de_var h 0 rfl rfl rfl) rfl, by omega, fun s hs => ⟨_, rfl, fun X' ⟨h, B, _⟩ m => de_get h .dic (de_var h 2 rfl rfl rfl) (de_var h 3 rfl rfl rfl) (de_tup (da_cC de_int (da_cC de_int (da_cC de_int (da_cC de_int (da_cC de_int da_nil)))))) (sk_ok s) (sk_D s).symm (told_get l s)⟩⟩)) (.now q)))
end DL

set_option maxHeartbeats 8000000
/-! walks: _law_floors. -/
namespace DL
open PySem PySem.Spec PyProof.Rows L2 Evl

local macro_rules
  | `(tactic| walk_at "op") => `(tactic| first
    | exact wo_add ⟨rfl, rfl⟩ | exact wo_sub ⟨rfl, rfl⟩ | exact wo_lt ⟨rfl, rfl⟩ | exact wo_le ⟨rfl, rfl⟩ | exact wo_gt ⟨rfl, rfl⟩ | exact wo_ge ⟨rfl, rfl⟩
    | exact wo_eqi ⟨rfl, rfl⟩ | exact wo_nei ⟨rfl, rfl⟩ | exact wo_eqb ⟨rfl, rfl⟩ | exact wo_neb ⟨rfl, rfl⟩ | exact wo_isN ⟨rfl, rfl⟩ | exact wo_notN ⟨rfl, rfl⟩)
  | `(tactic| walk_at "sq") => `(tactic| first | exact Sq.tup | exact Sq.lst | exact Sq.tupN | exact Sq.ref _ rfl)
  | `(tactic| walk_at "at") => `(tactic| first | rfl | assumption)
  | `(tactic| walk_at "isi") => `(tactic| first | exact wc_isI (by assumption) ⟨rfl, rfl⟩ | exact wc_isB (by assumption) ⟨rfl, rfl⟩ | exact wc_isT (by assumption) ⟨rfl, rfl⟩ | exact wc_isL (by assumption) ⟨rfl, rfl⟩ | exact wc_isLT (by assumption) ⟨rfl, rfl⟩ | exact wc_isBS (by assumption) ⟨rfl, rfl⟩)
  | `(tactic| walk_at "len") => `(tactic| exact wc_len (by first | exact Sq.tup | exact Sq.lst | exact Sq.tupN | exact Sq.ref _ rfl) ⟨rfl, rfl⟩)
  | `(tactic| walk_at "tuple") => `(tactic| exact wc_tuple (by first | exact Sq.lst | exact Sq.tup | exact Sq.tupN | exact Sq.ref _ rfl) ⟨rfl, rfl⟩)
  | `(tactic| walk_at "all") => `(tactic| exact wc_all (by assumption) (by first | exact SqO.lst | exact SqO.ref _ rfl) ⟨rfl, rfl⟩)

local macro_rules
  | `(tactic| walk_at "is_number") => `(tactic| exact ⟨_, rfl, by assumption, rfl, rfl⟩)
  | `(tactic| walk_at "tupled") => `(tactic| exact ⟨_, rfl, by assumption, rfl, rfl⟩)

theorem ints_alike' (a c : List Int) : PySem.W.alike (toPy (intsT a)) (toPy (intsT c)) = true := by
  simp only [intsT, toPy, PySem.W.alike]
  induction a generalizing c with
  | nil => simp [toPys, PySem.W.alikeAll]
  | cons p a ih =>
    cases c with
    | nil => simp [toPys, PySem.W.alikeAll]
    | cons q c => simp [toPys, toPy, PySem.W.alikeAll, PySem.W.alike, ih c]
theorem rows_alike (L : List (List Int)) : PySem.W.AllAlike ((L.map intsT).map toPy) := by
  intro d hd d' hd'
  obtain ⟨x, hx, rfl⟩ := List.mem_map.mp hd
  obtain ⟨y, hy, rfl⟩ := List.mem_map.mp hd'
  obtain ⟨a, _, rfl⟩ := List.mem_map.mp hx
  obtain ⟨c, _, rfl⟩ := List.mem_map.mp hy
  exact ints_alike' a c
theorem rows_sortable (L : List (List Int)) (h : ∀ l ∈ L, l ≠ []) : PySem.W.Sortable ((L.map intsT).map toPy) := .inl fun d hd => by
  obtain ⟨x, hx, rfl⟩ := List.mem_map.mp hd
  obtain ⟨a, ha, rfl⟩ := List.mem_map.mp hx
  cases a with
  | nil => exact absurd rfl (h _ ha)
  | cons p a => exact ⟨_, _, rfl⟩
theorem datB_intsT (n : Nat) (l : List Int) : datB (n + 1) (intsT l) = true := by
  simp only [intsT, datB, List.all_eq_true, List.mem_map]
  rintro d ⟨p, _, rfl⟩
  cases n <;> rfl
def rowD (r : List Pt) (k : Nat) (row : List Int) : D := .tup [intsT row, intsT (stF r k row)]
def extL (r : List Pt) (L : Lf) (k : Nat) (row : List Int) : List (List Int) := (nextIn r L k row).map fun x => row ++ [x]
theorem extL_len (r : List Pt) (L : Lf) (k : Nat) (row : List Int) : (extL r L k row).length ≤ 3 := by
  unfold extL
  rw [List.length_map]
  exact filter_len _ _ _ (nextK_len _ _ _)
theorem p12 {k : Nat} (h : k ≤ 12) : 3 ^ k ≤ 531441 := Nat.le_trans (Nat.pow_le_pow_right (by decide) h) (by decide)
/-- a call of kinds_next, at a step of the plan -/
theorem kinds_ask {r : List Pt} (hr : Rm r) {L : Lf} {k : Nat} (hk : k < r.length) (row : List Int) {dl : D} (hs : ∀ M' : MS, Sq M' dl ((L (sqAt r k)).map .int)) {M : MS} {Q : D → MS → Prop} (q : Q (.lst ((nextIn r L k row).map .int)) M) :
    s_law_kinds_next [stepOf r k, intsT (stF r k row), dl] M Q := by
  refine ⟨placesL r k, _, _, _, stF r k row, dl, L (sqAt r k), rfl, by unfold placesL; rw [List.length_map, ndL_len], fun i hi => ?_, hs, ?_⟩
  · unfold stF
    rw [List.length_map]
    exact places_lt hr.asc hr.nd hk hi
  · unfold nearO
    rw [places_near hr.asc hr.nd hk]
    exact q
theorem moved_ask {r : List Pt} {k : Nat} {row : List Int} (hl : row.length = k) (hk : k < 1000) {x : Int} {M : MS} {Q : D → MS → Prop} (q : Q (intsT (stF r (k + 1) (row ++ [x]))) M) : s_law_moved_on [stepOf r k, intsT (stF r k row), .int x] M Q := by
  refine ⟨_, _, _, movedL r k, stF r k row, x, rfl, ?_, fun m hm => ?_, ?_⟩
  · unfold movedL
    rw [List.length_map]
    have := kept_len (r := r) (k + 1)
    omega
  · have := moved_ok hm
    unfold stF
    rw [List.length_map]
    exact this
  · rw [st_next hl] at q
    exact q
def s_law_floors : SpD := fun ds M Q => ∃ (r : List Pt) (l : Lets), ds = [roomD r, letsD l] ∧ Rm r ∧ r.length ≤ 12 ∧ l.length ≤ 1000 ∧ (rowsK r (letF l) r.length).length ≤ 1 ∧ Q (.lst ((rowsK r (letF l) r.length).map intsT)) M
theorem ok__law_floors {X : Cx} (B : Bs X) : Dn X "_law_floors" 3 ["_law_ground", "_law_lets_so"] s_law_floors := by
  refine def_by B 70 55 55 (k := 2) (N := ["_law_ground", "_law_lets_so", "_law_let_so", "_law_found", "_law_k", "_law_step_so", "_law_later_so", "_law_laid_so", "_law_state_so", "_law_kind_so", "_law_own"]) rfl rfl ⟨rfl, rfl, rfl, by decide +kernel, rfl, by decide +kernel, by decide +kernel⟩ (fun _ _ _ _ _ _ us hl => match us, hl with | [_, _], _ => rfl) ?len ?body
  case len => rintro _ _ _ ⟨_, _, rfl, _⟩; rfl
  case body =>
    rintro X' h B _ M QD ⟨r, l, rfl, hr, hl, hll, h1, q⟩
    have nd := hr.nd
    refine wss_cons (ws_par h 2 3 rfl rfl (by decide) rfl rfl (h.sw0 fun E e => by cases E; cases e; rfl) (DE.to (de_call h (ok__law_lets_of B) rfl (da_cN (de_var h 0 rfl rfl rfl) (da_cN (de_var h 1 rfl rfl rfl) da_nil)) ⟨r, l, rfl, by omega, hll, rfl, rfl⟩) (DE.to (d := .lst ((rowsK r (letF l) 0).map (rowD r 0))) (DE.as (do_lst (da_cT (de_tup (da_cT (de_tup da_nil) (da_cT (de_tup da_nil) da_nil))) da_nil)).frz rfl) ?_)))
    refine wss_cons (ws_forT h (List.range r.length).zipIdx (enP (stepOf r)) (fun i ρ' M' => ∃ o4 o5 o6 o7 o8 o9, ρ' = [some (roomD r), some (letsD l), some (.lst (r.map fun s => intsT (letF l s))), some (.lst ((rowsK r (letF l) i).map (rowD r i))), o4, o5, o6, o7, o8, o9, none] ∧ M = M')
      (fi_en h (xs := (List.range r.length).map (stepOf r)) rfl B.f_enumerate (de_call h (ok__law_plan B) rfl (da_cN (de_var h 0 rfl rfl rfl) da_nil) ⟨r, rfl, hr, rfl, rfl⟩) (fun _ => .lst) rfl) ⟨none, none, none, none, none, none, rfl, rfl⟩ ?_ ?_)
    · rintro i ⟨k, i'⟩ ρ' M' hx ⟨o4, o5, o6, o7, o8, o9, rfl, rfl⟩
      obtain ⟨hx1, rfl⟩ := zipIdx_get hx
      have hi : i' < r.length := by have := (List.getElem?_eq_some_iff.mp hx1).1; simpa using this
      have hk : k = i' := by rw [List.getElem?_range hi] at hx1; simpa using hx1.symm
      subst hk
      have many := rows_many (r := r) (L := letF l) k
      have pk := p12 (k := k) (by omega)
      refine wg_tup h (wgs_cons h 4 rfl rfl (wgs_cons h 5 rfl rfl (wgs_nil ?_))) rfl
      refine wss_cons (ws_set h 6 rfl rfl (DO.to (do_lst da_nil) fun pl => ?_))
      refine wss_cons (ws_forT h (rowsK r (letF l) k) (rowD r k) (fun t ρ' M' => ∃ o7 o8 o9, ρ' = [some (roomD r), some (letsD l), some (.lst (r.map fun s => intsT (letF l s))), some (.lst ((rowsK r (letF l) k).map (rowD r k))), some (natD k), some (stepOf r k), some (.ref pl), o7, o8, o9, none] ∧ M' = (pl, .lst ((((rowsK r (letF l) k).take t).flatMap (extL r (letF l) k)).map (rowD r (k + 1)))) :: M)
        (fi_lst (de_var h 3 rfl rfl rfl) rfl) ⟨o7, o8, o9, rfl, rfl⟩ ?_ ?_)
      · rintro t row ρ' M' ht ⟨o7, o8, o9, rfl, rfl⟩
        have hrow := List.mem_of_getElem? ht
        have hrl := rows_len hrow
        have fl := flat_len2 (extL r (letF l) k) 3 531441 ((rowsK r (letF l) k).take t) (extL_len r (letF l) k) (take_len _ _ _ (by omega))
        refine wg_tup h (wgs_cons h 7 rfl rfl (wgs_cons h 8 rfl rfl (wgs_nil ?_))) rfl
        have hsq : L2.atI (r.map fun s => intsT (letF l s)) (k : Int) = some (intsT (letF l (sqAt r k))) := L2.atI_nat (by
          rw [List.getElem?_map, List.getElem?_eq_getElem hi]
          unfold sqAt
          rw [List.getD_eq_getElem?_getD, List.getElem?_eq_getElem hi]
          rfl)
        refine wss_one (ws_forT h (nextIn r (letF l) k row) .int (fun u ρ' M' => ∃ o9, ρ' = [some (roomD r), some (letsD l), some (.lst (r.map fun s => intsT (letF l s))), some (.lst ((rowsK r (letF l) k).map (rowD r k))), some (natD k), some (stepOf r k), some (.ref pl), some (intsT row), some (intsT (stF r k row)), o9, none] ∧ M' = (pl, .lst ((((rowsK r (letF l) k).take t).flatMap (extL r (letF l) k) ++ ((nextIn r (letF l) k row).take u).map fun x => row ++ [x]).map (rowD r (k + 1)))) :: M)
          (fi_lst (de_call h (ok__law_kinds_next B) rfl (da_cons (de_var h 5 rfl rfl rfl) (da_cons (de_var h 8 rfl rfl rfl) (da_cons (de_ix (de_var h 2 rfl rfl rfl) (de_var h 4 rfl rfl rfl) .lst hsq) da_nil))) (kinds_ask hr hi row (fun _ => .tup) ⟨rfl, rfl⟩)) rfl) ⟨o9, rfl, by simp⟩ ?_ ?_)
        · rintro u x ρ' M' hu ⟨o9, rfl, rfl⟩
          have nl := filter_len (fun x => decide (x ∈ letF l (sqAt r k))) (nextOf r k row) 3 (nextK_len _ _ _)
          have nl2 : (nextIn r (letF l) k row).length ≤ 3 := nl
          refine wg_name h 9 rfl rfl ?_
          refine wss_one (ws_append 0 (de_var h 6 rfl rfl rfl) (DE.as (d' := rowD r (k + 1) (row ++ [x])) (de_tup (da_cons (de_bin (de_var h 7 rfl rfl rfl) (de_tup (da_cN (de_var h 9 rfl rfl rfl) da_nil)) (wo_catT (by simp; omega) ⟨rfl, rfl⟩)) (da_cons (de_call h (ok__law_moved_on B) rfl (da_cN (de_var h 5 rfl rfl rfl) (da_cN (de_var h 8 rfl rfl rfl) (da_cN (de_var h 9 rfl rfl rfl) da_nil))) (moved_ask hrl (by omega) ⟨rfl, rfl⟩)) da_nil))) (by unfold rowD; simp)) rfl (by
            have := take_len (nextIn r (letF l) k row) u 3 nl2
            rw [List.length_map, List.length_append, List.length_map]; omega) ⟨_, rfl, ?_⟩)
          show (pl, MO.lst _) :: M = _
          rw [List.take_succ, hu]
          simp
        · rintro ρ' M' ⟨o9, rfl, rfl⟩
          refine ⟨_, _, _, rfl, ?_⟩
          rw [take_flat _ ht, List.take_length]
          rfl
      · rintro ρ' M' ⟨o7, o8, o9, rfl, rfl⟩
        rw [List.take_length]
        refine wss_cons (ws_set h 3 rfl rfl (DE.to (de_var h 6 rfl rfl rfl) (wss_fz 3 rfl (wss_nil ⟨_, _, _, _, _, _, rfl, rfl⟩))))
    · rintro ρ' M' ⟨o4, o5, o6, o7, o8, o9, rfl, rfl⟩
      rw [List.length_zipIdx, List.length_range]
      have rpos : 0 < r.length := List.length_pos_iff.mpr hr.ne
      have ee : ∀ l' : List D, l'.length ≤ 1 → l'.mergeSort leD = l' := fun l' hl' => by
        match l', hl' with
        | [], _ => simp
        | [a], _ => simp
      refine wss_one (ws_ret (DE.to (DO.frz (mo := .lst ((rowsK r (letF l) r.length).map intsT)) (do_callB h rfl B.f_sorted boot_sorted (da_cons (DO.frz (do_lcM h B (rowsK r (letF l) r.length) (rowD r r.length) intsT [("_law_own", 10)] (tg_name h 10 rfl rfl (by simp)) rfl ⟨wi_lstE (de_var h 3 rfl rfl rfl) rfl, by omega, fun row hrow => ⟨_, rfl, fun X' ⟨h, B, _⟩ m => de_ix (de_var h 10 rfl rfl rfl) de_int .tup rfl⟩⟩)) da_nil)
        (wc_sorted h .lst (fun d hd => by obtain ⟨x, _, rfl⟩ := List.mem_map.mp hd; exact datB_intsT 49 x) (rows_alike _) (rows_sortable _ fun x hx e => by have := rows_len hx; rw [e] at this; simp at this; omega) fun p => ⟨p, rfl, by rw [ee _ (by rw [List.length_map]; exact h1)]⟩))) (.now q)))
end DL

set_option maxHeartbeats 8000000
/-! walks: _law_some_laid, _law_laid. -/
namespace DL
open PySem PySem.Spec PyProof.Rows L2 Evl

local macro_rules
  | `(tactic| walk_at "op") => `(tactic| first
    | exact wo_add ⟨rfl, rfl⟩ | exact wo_sub ⟨rfl, rfl⟩ | exact wo_lt ⟨rfl, rfl⟩ | exact wo_le ⟨rfl, rfl⟩ | exact wo_gt ⟨rfl, rfl⟩ | exact wo_ge ⟨rfl, rfl⟩
    | exact wo_eqi ⟨rfl, rfl⟩ | exact wo_nei ⟨rfl, rfl⟩ | exact wo_eqb ⟨rfl, rfl⟩ | exact wo_neb ⟨rfl, rfl⟩ | exact wo_isN ⟨rfl, rfl⟩ | exact wo_notN ⟨rfl, rfl⟩)
  | `(tactic| walk_at "sq") => `(tactic| first | exact Sq.tup | exact Sq.lst | exact Sq.tupN | exact Sq.ref _ rfl)
  | `(tactic| walk_at "at") => `(tactic| first | rfl | assumption)
  | `(tactic| walk_at "isi") => `(tactic| first | exact wc_isI (by assumption) ⟨rfl, rfl⟩ | exact wc_isB (by assumption) ⟨rfl, rfl⟩ | exact wc_isT (by assumption) ⟨rfl, rfl⟩ | exact wc_isL (by assumption) ⟨rfl, rfl⟩ | exact wc_isLT (by assumption) ⟨rfl, rfl⟩ | exact wc_isBS (by assumption) ⟨rfl, rfl⟩)
  | `(tactic| walk_at "len") => `(tactic| exact wc_len (by first | exact Sq.tup | exact Sq.lst | exact Sq.tupN | exact Sq.ref _ rfl) ⟨rfl, rfl⟩)
  | `(tactic| walk_at "tuple") => `(tactic| exact wc_tuple (by first | exact Sq.lst | exact Sq.tup | exact Sq.tupN | exact Sq.ref _ rfl) ⟨rfl, rfl⟩)
  | `(tactic| walk_at "all") => `(tactic| exact wc_all (by assumption) (by first | exact SqO.lst | exact SqO.ref _ rfl) ⟨rfl, rfl⟩)

local macro_rules
  | `(tactic| walk_at "is_number") => `(tactic| exact ⟨_, rfl, by assumption, rfl, rfl⟩)
  | `(tactic| walk_at "tupled") => `(tactic| exact ⟨_, rfl, by assumption, rfl, rfl⟩)

def wayD (w : List Int × Int) : D := .tup [intsT w.1, .int w.2]
def LayerOk (P S : List (List Int)) (kvs : List (NK × D)) : Prop := ∀ st ∈ S, ∃ ways : List (List Int × Int), kvs.lookup (ik st) = some (.lst (ways.map wayD)) ∧ ways ≠ [] ∧ ways.length ≤ 1000000 ∧ ∀ w ∈ ways, w.1 ∈ P ∧ w.2 ∈ kindsL
inductive Chn : List (List (NK × D)) → List (List Int) → Prop
  | nil : Chn [] [[]]
  | snoc {Ls : List (List (NK × D))} {P S : List (List Int)} {kvs : List (NK × D)} : Chn Ls P → LayerOk P S kvs → Chn (Ls ++ [kvs]) S
theorem Chn.last {A : List (List (NK × D))} {kvs : List (NK × D)} {S : List (List Int)} (h : Chn (A ++ [kvs]) S) : ∃ P, Chn A P ∧ LayerOk P S kvs := by
  generalize e : A ++ [kvs] = L at h
  cases h with
  | nil => simp at e
  | snoc h1 h2 =>
    obtain ⟨rfl, e2⟩ := List.append_inj' e rfl
    cases e2
    exact ⟨_, h1, h2⟩
def nxL (r : List Pt) (i : Nat) (st : List Int) : List Int := (nextK (nearO st (placesL r i)) (eastB r (sqAt r i)) (southB r (sqAt r i))).filter fun x => decide (x ∈ kindsL)
theorem nxL_len (r : List Pt) (i : Nat) (st : List Int) : (nxL r i st).length ≤ 3 := filter_len _ _ _ (nextK_len _ _ _)
structure BhOk (r : List Pt) (i : Nat) (sts : List (List Int)) (dn : List (List Int × Int)) (kvs : List (NK × D)) (c : Nat) : Prop where
  keys : ∀ key ∈ kvs.map (·.1), ∃ st : List Int, key = ik st ∧ st.length = (kepP r (i + 1)).length
  val : ∀ (st : List Int) (d : D), kvs.lookup (ik st) = some d → ∃ ways : List (List Int × Int), d = .lst (ways.map wayD) ∧ ways ≠ [] ∧ ways.length ≤ c ∧ ∀ w ∈ ways, w.1 ∈ sts ∧ w.2 ∈ kindsL
  len : kvs.length ≤ c
  done : ∀ w ∈ dn, ik (nextSt r i w.1 w.2) ∈ kvs.map (·.1)
theorem bh0 (r : List Pt) (i : Nat) (sts : List (List Int)) : BhOk r i sts [] [] 0 := ⟨fun key hk => (by cases hk), fun st d hd => (by simp at hd), Nat.le_refl _, fun w hw => (by cases hw)⟩
theorem BhOk.get {r : List Pt} {i : Nat} {sts : List (List Int)} {dn : List (List Int × Int)} {kvs : List (NK × D)} {c : Nat} (h : BhOk r i sts dn kvs c) (st : List Int) :
    ∃ ways : List (List Int × Int), (kvs.lookup (ik st)).getD (.lst []) = .lst (ways.map wayD) ∧ ways.length ≤ c ∧ ∀ w ∈ ways, w.1 ∈ sts ∧ w.2 ∈ kindsL := by
  cases e : kvs.lookup (ik st) with
  | none => exact ⟨[], rfl, by simp, fun w hw => by cases hw⟩
  | some d =>
    obtain ⟨ways, rfl, _, h2, h3⟩ := h.val st d e
    exact ⟨ways, rfl, h2, h3⟩
theorem BhOk.put {r : List Pt} {i : Nat} {sts : List (List Int)} {dn : List (List Int × Int)} {kvs : List (NK × D)} {c : Nat} (h : BhOk r i sts dn kvs c) {st : List Int} {x : Int} (hs : st ∈ sts) (hx : x ∈ kindsL)
    {ways : List (List Int × Int)} (hl : ways.length ≤ c) (hw : ∀ w ∈ ways, w.1 ∈ sts ∧ w.2 ∈ kindsL) : BhOk r i sts (dn ++ [(st, x)]) (putN kvs (ik (nextSt r i st x)) (.lst ((ways ++ [(st, x)]).map wayD))) (c + 1) := by
  refine ⟨fun key hk => ?_, fun st2 d hd => ?_, ?_, fun w hw' => ?_⟩
  · rcases (keys_putN _ _ _ _).mp hk with z | z
    · exact h.keys key z
    · exact ⟨_, z, by unfold nextSt movedL; rw [List.length_map, List.length_map]⟩
  · rw [lookup_putN] at hd
    by_cases e : ik st2 = ik (nextSt r i st x)
    · rw [if_pos e] at hd
      cases hd
      refine ⟨_, rfl, by simp, by simp; omega, fun w hw' => ?_⟩
      rcases List.mem_append.mp hw' with z | z
      · exact hw w z
      · rw [List.mem_singleton.mp z]; exact ⟨hs, hx⟩
    · rw [if_neg e] at hd
      obtain ⟨ways2, e2, h1, h2, h3⟩ := h.val st2 d hd
      exact ⟨ways2, e2, h1, by omega, h3⟩
  · have := putN_len (kvs := kvs) (key := ik (nextSt r i st x)) (d := .lst ((ways ++ [(st, x)]).map wayD))
    have := h.len
    omega
  · rw [keys_putN]
    rcases List.mem_append.mp hw' with z | z
    · exact .inl (h.done w z)
    · rw [List.mem_singleton.mp z]; exact .inr rfl
theorem ik_list : ∀ l : List NK, (∀ key ∈ l, ∃ st : List Int, key = ik st ∧ st.length = n) → ∃ sts : List (List Int), l = sts.map ik ∧ ∀ st ∈ sts, st.length = n
  | [], _ => ⟨[], rfl, fun st h => by cases h⟩
  | a :: l, h => by
    obtain ⟨st, rfl, e⟩ := h a (by simp)
    obtain ⟨sts, rfl, e2⟩ := ik_list l fun key hk => h key (List.mem_cons_of_mem _ hk)
    exact ⟨st :: sts, rfl, fun x hx => by rcases List.mem_cons.mp hx with rfl | hx; exact e; exact e2 x hx⟩
theorem ik_mem {sts : List (List Int)} {st : List Int} (h : ik st ∈ sts.map ik) : st ∈ sts := by
  obtain ⟨x, hx, e⟩ := List.mem_map.mp h
  rw [← ik_inj e]; exact hx
/-- what holds behind i steps -/
structure Lay (r : List Pt) (i : Nat) (Ls : List (List (NK × D))) (sts : List (List Int)) : Prop where
  chn : Chn Ls sts
  len : Ls.length = i
  st : ∀ s ∈ sts, s.length = (kepP r i).length
  some_ : stF r i ((r.map (coursesF r)).take i) ∈ sts
  many : sts.length ≤ 3 ^ i
theorem lay0 (r : List Pt) : Lay r 0 [] [[]] := ⟨.nil, rfl, fun s hs => by rw [List.mem_singleton.mp hs]; rfl, by simp [stF, kepP], by simp⟩
theorem lay_next {r : List Pt} (hr : Rm r) {i : Nat} (hi : i < r.length) (h12 : r.length ≤ 12) {Ls : List (List (NK × D))} {sts : List (List Int)} (h : Lay r i Ls sts) {kvs : List (NK × D)} (b : BhOk r i sts (sts.flatMap fun st => (nxL r i st).map fun x => (st, x)) kvs (3 * sts.length)) :
    ∃ sts', kvs.map (·.1) = sts'.map ik ∧ Lay r (i + 1) (Ls ++ [kvs]) sts' := by
  obtain ⟨sts', e, hl⟩ := ik_list _ b.keys
  have m3 : 3 * sts.length ≤ 3 ^ (i + 1) := by have := h.many; rw [Nat.pow_succ]; omega
  have p := p12 (k := i + 1) (by omega)
  refine ⟨sts', e, .snoc h.chn fun st hst => ?_, by simp [h.len], hl, ?_, ?_⟩
  · have hk : ik st ∈ kvs.map (·.1) := by rw [e]; exact List.mem_map_of_mem hst
    have : (kvs.lookup (ik st)).isSome = true := by rw [lk_some]; exact decide_eq_true hk
    obtain ⟨d, hd⟩ := Option.isSome_iff_exists.mp this
    obtain ⟨ways, rfl, h1, h2, h3⟩ := b.val st d hd
    exact ⟨ways, hd, h1, by omega, h3⟩
  · refine ik_mem ?_
    rw [← e]
    have cr := courses_rows hr.asc hr.nd (k := i + 1) (by omega)
    have et : (r.map (coursesF r)).take (i + 1) = (r.map (coursesF r)).take i ++ [coursesF r (sqAt r i)] := by
      rw [List.take_succ, List.getElem?_map]
      unfold sqAt
      rw [List.getD_eq_getElem?_getD, List.getElem?_eq_getElem hi]
      rfl
    rw [et] at cr ⊢
    have hl0 : ((r.map (coursesF r)).take i).length = i := by rw [List.length_take, List.length_map]; omega
    rw [st_next hl0]
    refine b.done (_, _) (List.mem_flatMap.mpr ⟨_, h.some_, List.mem_map.mpr ⟨_, ?_, rfl⟩⟩)
    have := (mem_rows_succ.mp cr).2
    unfold nextIn nextOf at this
    unfold nxL nearO
    rw [places_near hr.asc hr.nd hi]
    exact this
  · have := congrArg List.length e
    rw [List.length_map, List.length_map] at this
    have := b.len
    omega
theorem keysD_ik {kvs : List (NK × D)} {sts : List (List Int)} (e : kvs.map (·.1) = sts.map ik) : keysD kvs = sts.map intsT := by
  unfold keysD
  rw [show (kvs.map fun p => keyD p.1) = (kvs.map (·.1)).map keyD by rw [List.map_map]; rfl, e, List.map_map]
  exact List.map_congr_left fun s _ => ik_D s
def s_law_some_laid : SpD := fun ds M Q => ∃ (p : Addr) (kk : Nat) (T : Tn) (n : Nat) (r : List Pt), ds = [.ref p, roomD r, .int 1] ∧ M[kk]? = some (p, T.O) ∧ T.Ok n ∧ n ≤ 10000 ∧ Rm r ∧ r.length ≤ 12 ∧
  ∀ (ks : List Int) (T' : Tn), ks.length = r.length → (∀ k ∈ ks, k ∈ kindsL) → T'.Ok (n + 12) → Q (.lst [intsT ks]) (M.set kk (p, T'.O))
theorem ok__law_some_laid {X : Cx} (B : Bs X) : Dn X "_law_some_laid" 3 ["_law_tin", "_law_ground", "_law_many_so"] s_law_some_laid := by
  refine def_by B 71 56 56 (k := 2) (N := ["_law_tin", "_law_ground", "_law_many_so", "_law_layers_so", "_law_now_so", "_law_step_so", "_law_behind_so", "_law_state_so", "_law_kind_so", "_law_key_so", "_law_found", "_law_lap", "_law_laid_so"]) rfl rfl ⟨rfl, rfl, rfl, by decide +kernel, rfl, by decide +kernel, by decide +kernel⟩ (fun _ _ _ _ _ _ us hl => match us, hl with | [_, _, _], _ => rfl) ?len ?body
  case len => rintro _ _ _ ⟨_, _, _, _, _, rfl, _⟩; rfl
  case body =>
    rintro X' h B _ M QD ⟨p, kk, T, n, r, rfl, hM, hT, hn, hr, hl, q⟩
    refine wss_cons (ws_par h 3 4 rfl rfl (by decide) rfl rfl (h.sw0 fun E e => by cases E; cases e; rfl) (DO.to (do_lst da_nil) fun pL => DE.to (d := .lst ([([] : List Int)].map intsT)) (DE.as (do_lst (da_cT (de_tup da_nil) da_nil)).frz rfl) ?_))
    refine wss_cons (ws_forT h (List.range r.length) (stepOf r) (fun i ρ' M' => ∃ o5 o6 o7 o8 o9 Ls sts, ρ' = [some (.ref p), some (roomD r), some (.int 1), some (.ref pL), some (.lst (sts.map intsT)), o5, o6, o7, o8, o9, none, none, none] ∧ M' = (pL, .lst (Ls.map .dic)) :: M ∧ Lay r i Ls sts)
      (fi_lst (de_call h (ok__law_plan B) rfl (da_cN (de_var h 1 rfl rfl rfl) da_nil) ⟨r, rfl, hr, rfl, rfl⟩) rfl) ⟨none, none, none, none, none, [], [[]], rfl, rfl, lay0 r⟩ ?_ ?_)
    · rintro i k ρ' M' hx ⟨o5, o6, o7, o8, o9, Ls, sts, rfl, rfl, lay⟩
      have hi : i < r.length := by have := (List.getElem?_eq_some_iff.mp hx).1; simpa using this
      have hk : k = i := by rw [List.getElem?_range hi] at hx; simpa using hx.symm
      subst hk
      have many := lay.many
      have pk := p12 (k := k + 1) (by omega)
      have pk2 : 3 ^ (k + 1) = 3 ^ k * 3 := Nat.pow_succ ..
      have hLl := lay.len
      refine wg_name h 5 rfl rfl ?_
      refine wss_cons (ws_set h 6 rfl rfl (wo_dic0 fun pb => ?_))
      refine wss_cons (ws_forT h sts intsT (fun t ρ' M' => ∃ o7 o8 o9 kvs, ρ' = [some (.ref p), some (roomD r), some (.int 1), some (.ref pL), some (.lst (sts.map intsT)), some (stepOf r k), some (.ref pb), o7, o8, o9, none, none, none] ∧ M' = (pb, .dic kvs) :: (pL, .lst (Ls.map .dic)) :: M ∧ BhOk r k sts ((sts.take t).flatMap fun st => (nxL r k st).map fun x => (st, x)) kvs (3 * t))
        (fi_lst (de_var h 4 rfl rfl rfl) rfl) ⟨o7, o8, o9, [], rfl, rfl, bh0 r k sts⟩ ?_ ?_)
      · rintro t st ρ' M' ht ⟨o7, o8, o9, kvs, rfl, rfl, bh⟩
        have hst := List.mem_of_getElem? ht
        have htl := (List.getElem?_eq_some_iff.mp ht).1
        have hstl := lay.st st hst
        refine wg_name h 7 rfl rfl ?_
        have nl := nxL_len r k st
        refine wss_one (ws_forT h (nxL r k st) .int (fun u ρ' M' => ∃ o8 o9 kvs, ρ' = [some (.ref p), some (roomD r), some (.int 1), some (.ref pL), some (.lst (sts.map intsT)), some (stepOf r k), some (.ref pb), some (intsT st), o8, o9, none, none, none] ∧ M' = (pb, .dic kvs) :: (pL, .lst (Ls.map .dic)) :: M ∧ BhOk r k sts (((sts.take t).flatMap fun st => (nxL r k st).map fun x => (st, x)) ++ ((nxL r k st).take u).map fun x => (st, x)) kvs (3 * t + u))
          (fi_lst (de_call h (ok__law_kinds_next B) rfl (da_cN (de_var h 5 rfl rfl rfl) (da_cN (de_var h 7 rfl rfl rfl) (da_cT (de_tup (da_cC de_int (da_cC de_int (da_cC de_int (da_cC de_int (da_cC de_int da_nil)))))) da_nil))) ⟨placesL r k, _, _, _, st, _, kindsL, rfl, by unfold placesL; rw [List.length_map, ndL_len], fun i' hi' => by rw [hstl]; exact places_lt hr.asc hr.nd hi hi', fun _ => .tup, rfl, rfl⟩) rfl) ⟨o8, o9, kvs, rfl, rfl, by simpa using bh⟩ ?_ ?_)
        · rintro u x ρ' M' hu ⟨o8, o9, kvs, rfl, rfl, bh⟩
          have hul := (List.getElem?_eq_some_iff.mp hu).1
          have hxk : x ∈ kindsL := by
            have := List.mem_of_getElem? hu
            unfold nxL at this
            exact of_decide_eq_true (List.mem_filter.mp this).2
          have hc : 3 * t + u < 1000000 := by omega
          have hkl := bh.len
          refine wg_name h 8 rfl rfl ?_
          refine wss_cons (ws_set h 9 rfl rfl (DE.to (d := intsT (nextSt r k st x)) (de_call h (ok__law_moved_on B) rfl (da_cN (de_var h 5 rfl rfl rfl) (da_cN (de_var h 7 rfl rfl rfl) (da_cN (de_var h 8 rfl rfl rfl) da_nil))) ⟨_, _, _, movedL r k, st, x, rfl, by unfold movedL; rw [List.length_map]; have := kept_len (r := r) (k + 1); omega, fun m hm => by rw [hstl]; exact moved_ok hm, rfl, rfl⟩) ?_))
          obtain ⟨ways, ew, hwl, hw⟩ := bh.get (nextSt r k st x)
          refine wss_one (ws_asg (DE.to (d := .lst ((ways ++ [(st, x)]).map wayD)) (DE.as (DO.frz (do_bin (de_get h (.ref 0 rfl) (de_var h 6 rfl rfl rfl) (de_var h 9 rfl rfl rfl) (do_lst da_nil).frz (ik_ok (nextSt r k st x)) (ik_D _).symm ew) (do_lst (da_cT (de_tup (da_cN (de_var h 7 rfl rfl rfl) (da_cN (de_var h 8 rfl rfl rfl) da_nil))) da_nil)).frz (wo_cat .lst .lst (by simp; omega) fun p => ⟨p, rfl, rfl⟩))) (by rw [List.map_append]; rfl)) (wg_sub (DE.to (de_var h 6 rfl rfl rfl) (DE.to (de_var h 9 rfl rfl rfl) (wst_dic h 0 rfl (ik_ok (nextSt r k st x)) (ik_D _).symm (by omega) ⟨_, _, _, rfl, rfl, ?_⟩))))))
          have bh2 := bh.put hst hxk hwl hw
          rw [List.take_succ, hu, List.map_append, ← List.append_assoc]
          exact bh2
        · rintro ρ' M' ⟨o8, o9, kvs, rfl, rfl, bh⟩
          refine ⟨_, _, _, kvs, rfl, rfl, ?_⟩
          rw [take_flat _ ht]
          rw [List.take_length] at bh
          exact ⟨bh.keys, fun st d hd => by obtain ⟨w, a, b, c, d⟩ := bh.val st d hd; exact ⟨w, a, b, by omega, d⟩, by have := bh.len; omega, bh.done⟩
      · rintro ρ' M' ⟨o7, o8, o9, kvs, rfl, rfl, bh⟩
        rw [List.take_length] at bh
        obtain ⟨sts', e, lay'⟩ := lay_next hr hi hl lay bh
        refine wss_fz 6 rfl ?_
        refine wss_cons (ws_append 0 (de_var h 3 rfl rfl rfl) (de_var h 6 rfl rfl rfl) rfl (by rw [List.length_map]; omega) ?_)
        refine wss_one (ws_set h 4 rfl rfl (DE.to (d := .lst (sts'.map intsT)) (DE.as (DO.frz (mo := .lst (keysD kvs)) (do_callTy h rfl B.f_list boot_list (da_cN (de_var h 6 rfl rfl rfl) da_nil) (wc_listN h .dic fun p => ⟨p, rfl, rfl⟩))) (by show D.lst _ = _; rw [keysD_ik e])) ⟨_, _, _, _, _, Ls ++ [kvs], sts', rfl, ?_, lay'⟩))
        show (pL, MO.lst _) :: M = _
        rw [List.map_append]
        rfl
    · rintro ρ' M' ⟨o5, o6, o7, o8, o9, Ls, sts, rfl, rfl, lay⟩
      rw [List.length_range] at lay
      have hLl := lay.len
      refine wss_fz 3 rfl ?_
      refine wss_cons (ws_set h 10 rfl rfl (DO.to (do_lst da_nil) fun pf => ?_))
      refine wss_cons (ws_forT h (List.range 1) (fun i => .int (i : Int)) (fun i ρ' M' => (i = 0 ∧ ρ' = [some (.ref p), some (roomD r), some (.int 1), some (.lst (Ls.map .dic)), some (.lst (sts.map intsT)), o5, o6, o7, o8, o9, some (.ref pf), none, none] ∧ M' = (pf, .lst []) :: M) ∨
          (i = 1 ∧ ∃ o6 o7 o8 o11 o12 ks T', ρ' = [some (.ref p), some (roomD r), some (.int 1), some (.lst (Ls.map .dic)), some (.lst (sts.map intsT)), o5, o6, o7, o8, o9, some (.ref pf), o11, o12] ∧ M' = (pf, .lst [intsT ks]) :: M.set kk (p, Tn.O T') ∧ ks.length = r.length ∧ (∀ k ∈ ks, k ∈ kindsL) ∧ T'.Ok (n + 12)))
        (WI.imp (fi_rng h (I := fun i ρ' M' => True) rfl B.f_range (de_var h 2 rfl rfl rfl) (by decide) (by decide)) fun a c d ⟨e1, e2, e3⟩ => ⟨e1, e2, fun i ρ' M' _ => e3 i ρ' M' trivial⟩) (.inl ⟨rfl, rfl, rfl⟩) ?_ ?_)
      · rintro i k ρ' M' hx iv
        have hi : i < 1 := by have := (List.getElem?_eq_some_iff.mp hx).1; simpa using this
        have hi0 : i = 0 := by omega
        subst hi0
        rcases iv with ⟨_, rfl, rfl⟩ | ⟨z, _⟩
        · refine wg_name h 11 rfl rfl ?_
          refine wss_cons (ws_par h 7 12 rfl rfl (by decide) rfl rfl (h.sw0 fun E e => by cases E; cases e; rfl) (DE.to (d := intsT []) (DE.as (de_tup da_nil) rfl) (DO.to (do_lst da_nil) fun pa => ?_)))
          have hst0 : ([] : List Int) ∈ sts := by
            have := lay.some_
            unfold stF at this
            rw [kept_end] at this
            exact this
          refine wss_cons (ws_forT h Ls.reverse .dic (fun t ρ' M' => ∃ o6 o8 st ks T' S, ρ' = [some (.ref p), some (roomD r), some (.int 1), some (.lst (Ls.map .dic)), some (.lst (sts.map intsT)), o5, o6, some (intsT st), o8, o9, some (.ref pf), some (.int (k : Int)), some (.ref pa)] ∧ M' = (pa, .lst (ks.map .int)) :: (pf, .lst []) :: M.set kk (p, Tn.O T') ∧ ks.length = t ∧ (∀ k ∈ ks, k ∈ kindsL) ∧ T'.Ok (n + t) ∧ Chn (Ls.take (Ls.length - t)) S ∧ st ∈ S)
            (fi_lst (DO.frz (mo := .lst _) (wo_rev (DE.to (de_var h 3 rfl rfl rfl) ⟨_, .lst, fun p => ⟨p, rfl, rfl⟩⟩))) (by rw [List.map_reverse])) ⟨o6, o8, [], [], T, sts, rfl, by rw [set_same hM]; rfl, rfl, fun k hk => by (cases hk), hT, by rw [Nat.sub_zero, List.take_length]; exact lay.chn, hst0⟩ ?_ ?_)
          · rintro t kvs ρ' M' ht ⟨o6, o8, st, ks, T', S, rfl, rfl, hkl, hkk, hT', chn, hst⟩
            have htl : t < Ls.length := by have := (List.getElem?_eq_some_iff.mp ht).1; simpa using this
            have et : Ls.take (Ls.length - t) = Ls.take (Ls.length - (t + 1)) ++ [kvs] := by
              rw [List.getElem?_reverse htl] at ht
              have e1 : Ls.length - t = (Ls.length - (t + 1)) + 1 := by omega
              have e2 : Ls.length - 1 - t = Ls.length - (t + 1) := by omega
              rw [e2] at ht
              rw [e1, List.take_succ, ht]
              rfl
            rw [et] at chn
            obtain ⟨P, hP, hlay⟩ := chn.last
            obtain ⟨ways, hlk, hne, hwl, hw⟩ := hlay st hst
            refine wg_name h 6 rfl rfl ?_
            have hM2 : ((pa, MO.lst (ks.map .int)) :: (pf, MO.lst []) :: M.set kk (p, T'.O))[kk + 2]? = some (p, T'.O) := get_set hM _
            refine wss_cons (ws_asg (we_call h (ok__law_of B) rfl (DA.to (da_cons (de_var h 0 rfl rfl rfl) (da_cons (de_at h .dic (de_var h 6 rfl rfl rfl) (de_var h 7 rfl rfl rfl) (ik_ok st) (ik_D st).symm hlk) da_nil)) ⟨p, kk + 2, T', n + t, _, ways.map wayD, rfl, hM2, hT', by omega, fun _ => .lst, fun e => hne (List.map_eq_nil_iff.mp e), by rw [List.length_map]; exact hwl, fun rr g T2 hg hT2 => ?_⟩)))
            rw [List.getElem?_map] at hg
            cases ew : ways[rr]? with
            | none => rw [ew] at hg; cases hg
            | some w =>
              rw [ew] at hg
              cases hg
              have hwm := hw w (List.mem_of_getElem? ew)
              refine wg_tup h (wgs_cons h 7 rfl rfl (wgs_cons h 8 rfl rfl (wgs_nil ?_))) rfl
              refine wss_one (ws_append 0 (de_var h 12 rfl rfl rfl) (de_var h 8 rfl rfl rfl) rfl (by rw [List.length_map]; omega) ⟨_, _, w.1, ks ++ [w.2], T2, P, rfl, ?_, by simp [hkl], fun k hk => ?_, hT2, hP, hwm.1⟩)
              · show (pa, MO.lst _) :: (pf, MO.lst []) :: (M.set kk (p, T'.O)).set kk (p, T2.O) = _
                rw [List.set_set, List.map_append]
                rfl
              · rcases List.mem_append.mp hk with z | z
                · exact hkk k z
                · rw [List.mem_singleton.mp z]; exact hwm.2
          · rintro ρ' M' ⟨o6, o8, st, ks, T', S, rfl, rfl, hkl, hkk, hT', chn, hst⟩
            rw [List.length_reverse] at hkl hT'
            refine wss_cons (ws_append 1 (de_var h 10 rfl rfl rfl) (DE.as (d' := intsT ks.reverse) (de_callTy h rfl B.f_tuple boot_tuple (da_cons (DO.frz (mo := .lst _) (wo_rev (DE.to (de_var h 12 rfl rfl rfl) ⟨_, .ref 0 rfl, fun p => ⟨p, rfl, rfl⟩⟩))) da_nil) (wc_tuple .lst ⟨rfl, rfl⟩)) (by show D.tup _ = D.tup _; rw [List.map_reverse])) rfl (by simp) ?_)
            exact wss_drop (wss_nil (.inr ⟨rfl, _, _, _, _, _, ks.reverse, T', rfl, rfl, by rw [List.length_reverse]; omega, fun k hk => hkk k (List.mem_reverse.mp hk), hT'.le (by omega)⟩))
        · omega
      · rintro ρ' M' iv
        rcases iv with ⟨z, _⟩ | ⟨_, o6, o7, o8, o11, o12, ks, T', rfl, rfl, h1, h2, h3⟩
        · cases z
        · exact wss_one (ws_ret (DE.to (de_var h 10 rfl rfl rfl) ⟨_, _, [(pf, _)], rfl, .ref (List.mem_singleton.mpr rfl), q ks T' h1 h2 h3⟩))
end DL

set_option maxHeartbeats 8000000
/-! walks: _law_laid, _law_room. -/
namespace DL
open PySem PySem.Spec PyProof.Rows L2 Evl

local macro_rules
  | `(tactic| walk_at "op") => `(tactic| first
    | exact wo_add ⟨rfl, rfl⟩ | exact wo_sub ⟨rfl, rfl⟩ | exact wo_lt ⟨rfl, rfl⟩ | exact wo_le ⟨rfl, rfl⟩ | exact wo_gt ⟨rfl, rfl⟩ | exact wo_ge ⟨rfl, rfl⟩
    | exact wo_eqi ⟨rfl, rfl⟩ | exact wo_nei ⟨rfl, rfl⟩ | exact wo_eqb ⟨rfl, rfl⟩ | exact wo_neb ⟨rfl, rfl⟩ | exact wo_isN ⟨rfl, rfl⟩ | exact wo_notN ⟨rfl, rfl⟩)
  | `(tactic| walk_at "sq") => `(tactic| first | exact Sq.tup | exact Sq.lst | exact Sq.tupN | exact Sq.ref _ rfl)
  | `(tactic| walk_at "at") => `(tactic| first | rfl | assumption)
  | `(tactic| walk_at "isi") => `(tactic| first | exact wc_isI (by assumption) ⟨rfl, rfl⟩ | exact wc_isB (by assumption) ⟨rfl, rfl⟩ | exact wc_isT (by assumption) ⟨rfl, rfl⟩ | exact wc_isL (by assumption) ⟨rfl, rfl⟩ | exact wc_isLT (by assumption) ⟨rfl, rfl⟩ | exact wc_isBS (by assumption) ⟨rfl, rfl⟩)
  | `(tactic| walk_at "len") => `(tactic| exact wc_len (by first | exact Sq.tup | exact Sq.lst | exact Sq.tupN | exact Sq.ref _ rfl) ⟨rfl, rfl⟩)
  | `(tactic| walk_at "tuple") => `(tactic| exact wc_tuple (by first | exact Sq.lst | exact Sq.tup | exact Sq.tupN | exact Sq.ref _ rfl) ⟨rfl, rfl⟩)
  | `(tactic| walk_at "all") => `(tactic| exact wc_all (by assumption) (by first | exact SqO.lst | exact SqO.ref _ rfl) ⟨rfl, rfl⟩)

local macro_rules
  | `(tactic| walk_at "is_number") => `(tactic| exact ⟨_, rfl, by assumption, rfl, rfl⟩)
  | `(tactic| walk_at "tupled") => `(tactic| exact ⟨_, rfl, by assumption, rfl, rfl⟩)

def s_law_laid : SpD := fun ds M Q => ∃ (p : Addr) (kk : Nat) (T : Tn) (n : Nat) (r : List Pt), ds = [.ref p, roomD r] ∧ M[kk]? = some (p, T.O) ∧ T.Ok n ∧ n ≤ 10000 ∧ Rm r ∧ r.length ≤ 12 ∧
  ∀ (ks : List Int) (T' : Tn), ks.length = r.length → (∀ k ∈ ks, k ∈ kindsL) → T'.Ok (n + 12) → Q (intsT ks) (M.set kk (p, T'.O))
theorem ok__law_laid {X : Cx} (B : Bs X) : Dn X "_law_laid" 4 ["_law_tin", "_law_ground"] s_law_laid := by
  refine def_by B 72 57 57 (k := 3) (N := ["_law_tin", "_law_ground"]) rfl rfl ⟨rfl, rfl, rfl, by decide +kernel, rfl, by decide +kernel, by decide +kernel⟩ (fun _ _ _ _ _ _ us hl => match us, hl with | [_, _], _ => rfl) ?len ?body
  case len => rintro _ _ _ ⟨_, _, _, _, _, rfl, _⟩; rfl
  case body =>
    rintro X' h B _ M QD ⟨p, kk, T, n, r, rfl, hM, hT, hn, hr, hl, q⟩
    exact wss_one (ws_ret (we_ix (we_call h (ok__law_some_laid B) rfl (DA.to (da_cN (de_var h 0 rfl rfl rfl) (da_cN (de_var h 1 rfl rfl rfl) (da_cC de_int da_nil))) ⟨p, kk, T, n, r, rfl, hM, hT, hn, hr, hl, fun ks T' h1 h2 h3 => DE.to de_int ⟨_, 0, _, .lst, rfl, rfl, .now (q ks T' h1 h2 h3)⟩⟩))))

section
variable {X : Cx} {N : List Str} {sc : Scope} {k : Nat} {b : Bool} {ρ : EnvD} {M M1 M2 M' : MS} {pos : Pos} {Q : D → MS → Prop} {E : DEnds}
theorem we_take (h : XOk X N sc k b) (B : Bs X) (hg : glB sc "_law_take" = true) {M0 : MS} {kk : Nat} {p : Addr} {x0 : Addr × MO} {T : Tn} {n below : Nat} {e1 e2 : Expr} {pn : Pos} (hM : M0[kk]? = some x0) (h1 : DE X e1 ρ (M0.set kk (p, T.O)) (.ref p) (M0.set kk (p, T.O)))
    (h2 : DE X e2 ρ (M0.set kk (p, T.O)) (.int below) (M0.set kk (p, T.O))) (hT : T.Ok n) (hn : n ≤ 1000000) (hb : 0 < below) (hb2 : below ≤ 1000000) (q : ∀ (r : Nat) (T' : Tn), r < below → T'.Ok (n + 1) → Q (.int r) (M0.set kk (p, T'.O))) (hk : 1 ≤ k := by decide)
    (he : starEach [e1, e2] X.env = (false, eval e1 X.env) :: starEach [e2] X.env := by rfl) (he2 : starEach [e2] X.env = (false, eval e2 X.env) :: starEach [] X.env := by rfl) (hpl : (backTo pos (starEach [e2] X.env)).any (·.1) = false := by rfl) : WE X (.Call (.Name "_law_take" pn) [e1, e2] [] pos) ρ (M0.set kk (p, T.O)) Q :=
  we_call h (ok__law_take B) hg (DA.to (da_cons h1 (da_cons h2 da_nil he2) he) ⟨p, kk, T, n, below, rfl, get_set hM _, hT, hn, hb, hb2, fun r T' hr hT' => by rw [List.set_set]; exact q r T' hr hT'⟩) hk (by decide +kernel) he hpl
theorem we_of (h : XOk X N sc k b) (B : Bs X) (hg : glB sc "_law_of" = true) {M0 : MS} {kk : Nat} {p : Addr} {x0 : Addr × MO} {T : Tn} {n : Nat} {e1 e2 : Expr} {pn : Pos} (hM : M0[kk]? = some x0) (h1 : DE X e1 ρ (M0.set kk (p, T.O)) (.ref p) (M0.set kk (p, T.O)))
    (h2 : WE X e2 ρ (M0.set kk (p, T.O)) fun d M1 => ∃ gs, M1 = M0.set kk (p, T.O) ∧ (∀ T' : Tn, Sq (M0.set kk (p, T'.O)) d gs) ∧ gs ≠ [] ∧ gs.length ≤ 1000000 ∧ ∀ (rr : Nat) (g : D) (T' : Tn), gs[rr]? = some g → T'.Ok (n + 1) → Q g (M0.set kk (p, T'.O))) (hT : T.Ok n) (hn : n < 1000000) (hk : 2 ≤ k := by decide)
    (he : starEach [e1, e2] X.env = (false, eval e1 X.env) :: starEach [e2] X.env := by rfl) (he2 : starEach [e2] X.env = (false, eval e2 X.env) :: starEach [] X.env := by rfl) (hpl : (backTo pos (starEach [e2] X.env)).any (·.1) = false := by rfl) : WE X (.Call (.Name "_law_of" pn) [e1, e2] [] pos) ρ (M0.set kk (p, T.O)) Q :=
  we_call h (ok__law_of B) hg (wa_cons (h1.to (wa_cons (h2.imp fun d M1 ⟨gs, e, s, ne, hl, q⟩ => wa_nil ⟨p, kk, T, n, d, gs, rfl, by rw [e]; exact get_set hM _, hT, hn, fun T' => by rw [e, List.set_set]; exact s T', ne, hl, fun rr g T' hg hT' => by rw [e, List.set_set]; exact q rr g T' hg hT'⟩) he2)) he) hk (by decide +kernel) he hpl
theorem ws_appendW {o e : Expr} {p : Addr} {xs : List D} {spos apos : Pos} (kk : Nat) (ho : DE X o ρ M (.ref p) M) (hk : M[kk]? = some (p, .lst xs)) (ha : WE X e ρ M fun d M1 => M1[kk]? = some (p, .lst xs) ∧ xs.length < 16000000 ∧ E.nx ρ (M1.set kk (p, .lst (xs ++ [d])))) (c : Mt1 X o "append" apos e pos := by exact ⟨rfl, rfl, rfl, rfl⟩)
    (hs : swapsWith (.Call (.Attribute o "append" apos) [e] [] pos) none spos.line X.env = pure false := by rfl) : WS X (.Expr (.Call (.Attribute o "append" apos) [e] [] pos) spos) ρ M E :=
  ws_expr (we_bm PySem.F.plainAttrs_list PySem.F.slot_list_append PySem.F.type_list_append (ho.to ⟨rcv_list (.ref kk hk), wa_cons (ha.imp fun d' M1 ⟨e2, z, q⟩ => wa_nil (wm_append kk e2 z q)) c.hs⟩) c.hbase c.hfew c.hline c.hs (by rfl)) hs
theorem ws_removeW (h : XOk X N sc k b) {o e : Expr} {p : Addr} {ds : List D} {spos apos : Pos} (kk : Nat) (ho : DE X o ρ M (.ref p) M) (hk : M[kk]? = some (p, .lst ds)) (g2 : ∀ e ∈ ds, datB 60 e = true)
    (ha : WE X e ρ M fun d M1 => ∃ (j : Nat) (z : D), M1[kk]? = some (p, .lst ds) ∧ datB 60 d = true ∧ ds[j]? = some z ∧ eqD z d = true ∧ (∀ (m : Nat) (z' : D), m < j → ds[m]? = some z' → eqD z' d = false) ∧ E.nx ρ (M1.set kk (p, .lst (ds.eraseIdx j)))) (c : Mt1 X o "remove" apos e pos := by exact ⟨rfl, rfl, rfl, rfl⟩)
    (hs : swapsWith (.Call (.Attribute o "remove" apos) [e] [] pos) none spos.line X.env = pure false := by rfl) : WS X (.Expr (.Call (.Attribute o "remove" apos) [e] [] pos) spos) ρ M E :=
  ws_expr (we_bm PySem.F.plainAttrs_list PySem.F.slot_list_remove PySem.F.type_list_remove (ho.to ⟨rcv_list (.ref kk hk), wa_cons (ha.imp fun d' M1 ⟨j, z, e2, g1, hj, hit, hno, q⟩ => wa_nil (wm_remove h kk e2 g1 g2 hj hit hno q)) c.hs⟩) c.hbase c.hfew c.hline c.hs (by rfl)) hs
end
/-! ### a room in the making -/
structure FOk (fl : List Pt) : Prop where
  ne : fl ≠ []
  nd : fl.Nodup
  nn : ∀ p ∈ fl, 0 ≤ p.1 ∧ 0 ≤ p.2
  len : fl.length ≤ 12
def nbr (fl : List Pt) (s : Pt) : List Pt := (besideL s).filter fun q => !decide (q ∈ fl) && decide (0 ≤ if q.2 < q.1 then q.2 else q.1)
theorem mem_nbr {fl : List Pt} {s q : Pt} (h : q ∈ nbr fl s) : q ∉ fl ∧ 0 ≤ q.1 ∧ 0 ≤ q.2 := by
  unfold nbr at h
  have h2 := (List.mem_filter.mp h).2
  simp only [Bool.and_eq_true, Bool.not_eq_true', decide_eq_false_iff_not, decide_eq_true_eq] at h2
  refine ⟨h2.1, ?_⟩
  have := h2.2
  split at this <;> omega
theorem nbr_len (fl : List Pt) (s : Pt) : (nbr fl s).length ≤ 4 := filter_len _ _ _ (by simp [besideL])
theorem most_x : ∀ {fl : List Pt}, fl ≠ [] → ∃ m ∈ fl, ∀ q ∈ fl, q.1 ≤ m.1
  | [], h => absurd rfl h
  | [a], _ => ⟨a, by simp, fun q hq => by rw [List.mem_singleton.mp hq]; omega⟩
  | a :: c :: fl, _ => by
    obtain ⟨m, hm, h⟩ := most_x (fl := c :: fl) (by simp)
    by_cases e : m.1 ≤ a.1
    · refine ⟨a, by simp, fun q hq => ?_⟩
      rcases List.mem_cons.mp hq with rfl | hq
      · omega
      · have := h q hq; omega
    · refine ⟨m, List.mem_cons_of_mem _ hm, fun q hq => ?_⟩
      rcases List.mem_cons.mp hq with rfl | hq
      · omega
      · exact h q hq
theorem near_ne {fl : List Pt} (ok : FOk fl) : fl.flatMap (nbr fl) ≠ [] := by
  obtain ⟨m, hm, hx⟩ := most_x ok.ne
  have : (m.1 + 1, m.2) ∈ fl.flatMap (nbr fl) := by
    refine List.mem_flatMap.mpr ⟨m, hm, ?_⟩
    unfold nbr
    rw [List.mem_filter]
    refine ⟨by simp [besideL, led], ?_⟩
    have hn : (m.1 + 1, m.2) ∉ fl := fun z => by have := hx _ z; simp at this; omega
    have := ok.nn m hm
    simp only [hn, decide_false, Bool.not_false, Bool.true_and, decide_eq_true_eq]
    split <;> omega
  intro e
  rw [e] at this
  cases this
def srtP (l : List Pt) : List Pt := l.mergeSort fun a b => leD (sqD a) (sqD b)
theorem srtP_perm (l : List Pt) : (srtP l).Perm l := List.mergeSort_perm _ _
theorem srtP_D (l : List Pt) : (l.map sqD).mergeSort leD = (srtP l).map sqD := by
  unfold srtP
  rw [List.map_mergeSort]
  intro a _ b _; rfl
theorem leD_sq (a b : Pt) : leD (sqD a) (sqD b) = !decide (b.1 < a.1 ∨ (b.1 = a.1 ∧ b.2 < a.2)) := by rw [leD_eq, sq_lt]
theorem srtP_asc {l : List Pt} (nd : l.Nodup) : (srtP l).Pairwise ltP' := by
  have h1 : (srtP l).Pairwise fun a b => leD (sqD a) (sqD b) = true := by
    refine List.pairwise_mergeSort (fun a b c h1 h2 => ?_) (fun a b => ?_) l
    · rw [leD_sq] at h1 h2 ⊢
      simp only [Bool.not_eq_true', decide_eq_false_iff_not, not_or, not_and] at h1 h2 ⊢
      omega
    · rw [leD_sq, leD_sq]
      simp only [Bool.or_eq_true, Bool.not_eq_true', decide_eq_false_iff_not, not_or, not_and]
      omega
  have h2 : (srtP l).Nodup := (srtP_perm l).nodup_iff.mpr nd
  refine List.Pairwise.imp₂ (fun a b h3 h4 => ?_) h1 h2
  rw [leD_sq] at h3
  simp only [Bool.not_eq_true', decide_eq_false_iff_not, not_or, not_and] at h3
  unfold ltP'
  have ne : ¬ (a.1 = b.1 ∧ a.2 = b.2) := fun z => h4 (Prod.ext z.1 z.2)
  omega
theorem room_of {fl : List Pt} (ok : FOk fl) : Rm (srtP fl) ∧ (srtP fl).length ≤ 12 := by
  have p := srtP_perm fl
  refine ⟨⟨fun e => ok.ne ?_, fun q hq => ok.nn q (p.mem_iff.mp hq), srtP_asc ok.nd, ?_⟩, ?_⟩
  · rw [e] at p
    exact p.symm.eq_nil
  · rw [p.length_eq]; have := ok.len; omega
  · rw [p.length_eq]; exact ok.len
theorem pts_alike (l : List Pt) : PySem.W.AllAlike ((l.map sqD).map toPy) := by
  intro d hd d' hd'
  obtain ⟨x, hx, rfl⟩ := List.mem_map.mp hd
  obtain ⟨y, hy, rfl⟩ := List.mem_map.mp hd'
  obtain ⟨a, _, rfl⟩ := List.mem_map.mp hx
  obtain ⟨c, _, rfl⟩ := List.mem_map.mp hy
  simp [toPy, toPys, PySem.W.alike, PySem.W.alikeAll]
theorem pts_sortable (l : List Pt) : PySem.W.Sortable ((l.map sqD).map toPy) := .inl fun d hd => by
  obtain ⟨x, hx, rfl⟩ := List.mem_map.mp hd
  obtain ⟨a, ha, rfl⟩ := List.mem_map.mp hx
  exact ⟨_, _, rfl⟩
theorem box_ok : ∀ hi, hi < 5 → ∀ wi, wi < 5 → (boxL hi wi).Nodup ∧ (∀ q ∈ boxL hi wi, 0 ≤ q.1 ∧ 0 ≤ q.2) ∧ (1 ≤ hi → 1 ≤ wi → 0 < (boxL hi wi).length) ∧ (boxL hi wi).length ≤ 100 := by decide +kernel
def shiftL (x y : Int) (l : List Pt) : List Pt := l.map fun q => (x + q.1, y + q.2)
theorem cut12 {α : Type} (xs : List α) : cutA xs none (some 12) = xs.take 12 := by
  have e := HT.sIx_nat xs.length xs.length 12
  simp only [Int.cast_ofNat_Int] at e
  unfold cutA
  rw [HT.sIx_none, e, List.drop_zero, Nat.sub_zero]
  by_cases z : 12 ≤ xs.length
  · rw [Nat.min_eq_left z]
  · rw [List.take_of_length_le (by omega), List.take_of_length_le (by omega)]
theorem first_ok {x y : Nat} {hi wi : Nat} (h1 : 1 ≤ hi) (h2 : hi < 5) (h3 : 1 ≤ wi) (h4 : wi < 5) : FOk ((shiftL x y (boxL hi wi)).take 12) := by
  obtain ⟨a, c, d, _⟩ := box_ok hi h2 wi h4
  have d := d h1 h3
  refine ⟨fun e => ?_, ?_, fun p hp => ?_, ?_⟩
  · have := congrArg List.length e
    rw [List.length_take] at this
    unfold shiftL at this
    rw [List.length_map, List.length_nil] at this
    omega
  · refine List.Nodup.sublist (List.take_sublist _ _) ?_
    unfold shiftL
    refine List.Pairwise.map _ (fun p q ne e => ne ?_) a
    injection e with e1 e2
    exact Prod.ext (by omega) (by omega)
  · have hp := List.mem_of_mem_take hp
    unfold shiftL at hp
    obtain ⟨q, hq, rfl⟩ := List.mem_map.mp hp
    have := c q hq
    exact ⟨by show 0 ≤ (x : Int) + q.1; omega, by show 0 ≤ (y : Int) + q.2; omega⟩
  · rw [List.length_take]; omega
theorem FOk.add {fl : List Pt} (ok : FOk fl) (hl : fl.length < 12) {q : Pt} (hq : q ∉ fl) (hn : 0 ≤ q.1 ∧ 0 ≤ q.2) : FOk (fl ++ [q]) := by
  refine ⟨by simp, ?_, fun p hp => ?_, by simp; omega⟩
  · rw [List.nodup_append]
    exact ⟨ok.nd, by simp, fun a ha b hb e => by rw [List.mem_singleton] at hb; subst hb e; exact hq ha⟩
  · rcases List.mem_append.mp hp with z | z
    · exact ok.nn p z
    · rw [List.mem_singleton.mp z]; exact hn
theorem FOk.del {fl : List Pt} (ok : FOk fl) (hl : 4 < fl.length) (j : Nat) : FOk (fl.eraseIdx j) := by
  refine ⟨fun e => ?_, List.Nodup.sublist (List.eraseIdx_sublist _ _) ok.nd, fun p hp => ok.nn p ((List.eraseIdx_sublist _ _).mem hp), ?_⟩
  · have := congrArg List.length e
    rw [List.length_eraseIdx, List.length_nil] at this
    split at this <;> omega
  · have := ok.len
    rw [List.length_eraseIdx]
    split <;> omega
theorem idxP {l : List Pt} {q : Pt} (h : q ∈ l) : l[l.idxOf q]? = some q ∧ ∀ m (z : Pt), m < l.idxOf q → l[m]? = some z → z ≠ q := by
  have hl := List.idxOf_lt_length_iff.mpr h
  refine ⟨by rw [List.getElem?_eq_getElem hl, List.getElem_idxOf], fun m z hm e e2 => ?_⟩
  obtain ⟨h1, h2⟩ := List.getElem?_eq_some_iff.mp e
  have := List.not_of_lt_findIdx (p := (· == q)) (xs := l) (i := m) hm
  simp [h2, e2] at this
end DL

set_option maxHeartbeats 8000000
/-! walks: _law_room. -/
namespace DL
open PySem PySem.Spec PyProof.Rows L2 Evl

local macro_rules
  | `(tactic| walk_at "op") => `(tactic| first
    | exact wo_add ⟨rfl, rfl⟩ | exact wo_sub ⟨rfl, rfl⟩ | exact wo_lt ⟨rfl, rfl⟩ | exact wo_le ⟨rfl, rfl⟩ | exact wo_gt ⟨rfl, rfl⟩ | exact wo_ge ⟨rfl, rfl⟩
    | exact wo_eqi ⟨rfl, rfl⟩ | exact wo_nei ⟨rfl, rfl⟩ | exact wo_eqb ⟨rfl, rfl⟩ | exact wo_neb ⟨rfl, rfl⟩ | exact wo_isN ⟨rfl, rfl⟩ | exact wo_notN ⟨rfl, rfl⟩)
  | `(tactic| walk_at "sq") => `(tactic| first | exact Sq.tup | exact Sq.lst | exact Sq.tupN | exact Sq.ref _ rfl)
  | `(tactic| walk_at "at") => `(tactic| first | rfl | assumption)
  | `(tactic| walk_at "isi") => `(tactic| first | exact wc_isI (by assumption) ⟨rfl, rfl⟩ | exact wc_isB (by assumption) ⟨rfl, rfl⟩ | exact wc_isT (by assumption) ⟨rfl, rfl⟩ | exact wc_isL (by assumption) ⟨rfl, rfl⟩ | exact wc_isLT (by assumption) ⟨rfl, rfl⟩ | exact wc_isBS (by assumption) ⟨rfl, rfl⟩)
  | `(tactic| walk_at "len") => `(tactic| exact wc_len (by first | exact Sq.tup | exact Sq.lst | exact Sq.tupN | exact Sq.ref _ rfl) ⟨rfl, rfl⟩)
  | `(tactic| walk_at "tuple") => `(tactic| exact wc_tuple (by first | exact Sq.lst | exact Sq.tup | exact Sq.tupN | exact Sq.ref _ rfl) ⟨rfl, rfl⟩)
  | `(tactic| walk_at "all") => `(tactic| exact wc_all (by assumption) (by first | exact SqO.lst | exact SqO.ref _ rfl) ⟨rfl, rfl⟩)

local macro_rules
  | `(tactic| walk_at "is_number") => `(tactic| exact ⟨_, rfl, by assumption, rfl, rfl⟩)
  | `(tactic| walk_at "tupled") => `(tactic| exact ⟨_, rfl, by assumption, rfl, rfl⟩)

theorem erase_map {α β : Type} (f : α → β) : ∀ (l : List α) (i : Nat), (l.map f).eraseIdx i = (l.eraseIdx i).map f
  | [], i => by simp
  | a :: l, 0 => by simp
  | a :: l, i + 1 => by simp [erase_map f l i]
theorem sub_len {α : Type} [DecidableEq α] : ∀ {out l : List α}, out.Nodup → (∀ z ∈ out, z ∈ l) → out.length ≤ l.length
  | [], l, _, _ => by simp
  | a :: out, l, nd, hs => by
    have ha := hs a (by simp)
    have h2 := List.nodup_cons.mp nd
    have ih := sub_len (l := l.erase a) h2.2 fun z hz => (List.mem_erase_of_ne (a := z) (b := a) (fun e => by subst e; exact h2.1 hz)).mpr (hs z (List.mem_cons_of_mem _ hz))
    rw [List.length_erase_of_mem ha] at ih
    have := List.length_pos_of_mem ha
    rw [List.length_cons]
    omega
theorem castS {a b : Int} (h : a = b) : D.int a = D.int b := congrArg D.int h
def s_law_room : SpD := fun ds M Q => ∃ (p : Addr) (kk : Nat) (T : Tn) (n : Nat), ds = [.ref p, .int 12] ∧ M[kk]? = some (p, T.O) ∧ T.Ok n ∧ n ≤ 10000 ∧
  ∀ (r : List Pt) (T' : Tn), Rm r → r.length ≤ 12 → T'.Ok (n + 50) → Q (roomD r) (M.set kk (p, T'.O))
abbrev roomEnv (p : Addr) (x y : Nat) (k : D) (hi wi : Nat) (o7 o10 o11 o12 o14 : Option D) : EnvD := [some (.ref p), some (.int 12), some (natD x), some (natD y), some k, some (natD wi), some (natD hi), o7, none, none, o10, o11, o12, none, o14]
theorem ok__law_room {X : Cx} (B : Bs X) : Dn X "_law_room" 3 ["_law_tin", "_law_most_so"] s_law_room := by
  refine def_by B 75 60 60 (k := 2) (N := ["_law_tin", "_law_most_so", "_law_x", "_law_y", "_law_kind_so", "_law_wide_so", "_law_high_so", "_law_found", "_law_i", "_law_j", "_law_lap", "_law_near_so", "_law_spot", "_law_own", "_law_far_so"]) rfl rfl ⟨rfl, rfl, rfl, by decide +kernel, rfl, by decide +kernel, by decide +kernel⟩ (fun _ _ _ _ _ _ us hl => match us, hl with | [_, _], _ => rfl) ?len ?body
  case len => rintro _ _ _ ⟨_, _, _, _, rfl, _⟩; rfl
  case body =>
    rintro X' h B _ M QD ⟨p, kk, T, n, rfl, hM, hT, hn, q⟩
    rw [← set_same hM]
    -- the end
    have key8 : ∀ (pf : Addr) (x y : Nat) (kd : D) (hi wi : Nat) (o10 o11 o12 o14 : Option D) (fl : List Pt) (T : Tn), FOk fl → T.Ok (n + 50) → WSs X' ((defBody (TH.top 75)).drop 7) (roomEnv p x y kd hi wi (some (.ref pf)) o10 o11 o12 o14) ((pf, .lst (fl.map sqD)) :: M.set kk (p, T.O)) { nx := fun _ M' => Rtn QD .non M', rt := Rtn QD } := by
      intro pf x y kd hi wi o10 o11 o12 o14 fl T ok hT
      obtain ⟨r1, r2⟩ := room_of ok
      exact wss_one (ws_ret (DE.to (M' := (pf, .lst (fl.map sqD)) :: M.set kk (p, T.O)) (d := roomD (srtP fl)) (de_callTy h rfl B.f_tuple boot_tuple (da_cons (DO.frz (mo := .lst ((srtP fl).map sqD)) (do_callB h rfl B.f_sorted boot_sorted (da_cN (de_var h 7 rfl rfl rfl) da_nil) (wc_sorted h (.ref 0 rfl) (datB_sqs 49 fl) (pts_alike fl) (pts_sortable fl) fun p => ⟨p, rfl, by rw [srtP_D]⟩))) da_nil) (wc_tuple .lst ⟨rfl, rfl⟩)) ⟨_, _, [(pf, _)], rfl, .id, q _ T r1 r2 hT⟩))
    -- a piece apart
    have key7 : ∀ (pf : Addr) (x y : Nat) (kd : D) (hi wi : Nat) (o10 o11 o12 : Option D) (fl : List Pt) (T : Tn), FOk fl → T.Ok (n + 30) → WSs X' ((defBody (TH.top 75)).drop 6) (roomEnv p x y kd hi wi (some (.ref pf)) o10 o11 o12 none) ((pf, .lst (fl.map sqD)) :: M.set kk (p, T.O)) { nx := fun _ M' => Rtn QD .non M', rt := Rtn QD } := by
      intro pf x y kd hi wi o10 o11 o12 fl T ok hT
      have hl := ok.len
      refine wss_cons (ws_if (WW.wt (ww_and (wt_cmp (we_take h B rfl (M0 := (pf, .lst (fl.map sqD)) :: M) (kk := kk + 1) hM (de_var h 0 rfl rfl rfl) (below := 8) de_int hT (by omega) (by decide) (by decide) fun r8 T2 hr8 hT2 => DE.to de_int (wo_eqi ⟨_, rfl, fun e => ?_, fun e => ?_⟩))))))
      · refine ww_and1 (DT.to (d := decide ((fl.length : Int) < 12 - 1)) (dt_cmp (DE.as (d' := .int (fl.length : Int)) (de_callB h rfl B.f_len boot_len (da_cN (de_var h 7 rfl rfl rfl) da_nil) (wc_len (.ref 0 rfl) ⟨rfl, rfl⟩)) (by rw [List.length_map])) (de_bin (de_var h 1 rfl rfl rfl) de_int (by walk_at "op")) (wo_lt ⟨rfl, rfl⟩)) ⟨fun c => ?_, fun c => wss_nil (key8 pf x y kd hi wi _ _ _ _ fl T2 ok (hT2.le (by omega)))⟩)
        have c' := of_decide_eq_true c
        refine wss_cons (ws_set h 14 rfl rfl (we_bin (we_bin (we_callB h rfl B.f_max boot_max (DA.to (da_cons (DO.frz (do_lcM h B fl sqD (fun q => .int q.1) [("_law_own", 13)] (tg_name h 13 rfl rfl (by simp)) rfl ⟨wi_refE 0 (de_var h 7 rfl rfl rfl) rfl rfl, by omega, fun q _ => ⟨_, rfl, fun X' ⟨h, B, _⟩ m => de_ix (de_var h 13 rfl rfl rfl) de_int .tup rfl⟩⟩)) da_nil) (wc_max h (ns := fl.map fun q => q.1) (by show SqO _ (D.lst _) _; rw [List.map_map]; exact .lst) (by rw [List.length_map]; exact List.length_pos_iff.mpr ok.ne) fun m hm hmax => DE.to de_int (wo_add (we_take h B rfl (M0 := (pf, .lst (fl.map sqD)) :: M) (kk := kk + 1) hM (de_var h 0 rfl rfl rfl) (below := 2) de_int hT2 (by omega) (by decide) (by decide) fun r2 T3 hr2 hT3 => wo_add ?_))))))))
        refine wss_one (ws_set h 7 rfl rfl (DO.to (mo := .lst ((fl ++ [(m + 1 + r2, 7), (m + 1 + r2, 8)]).map sqD)) (do_bin (de_var h 7 rfl rfl rfl) (do_lst (da_cT (de_tup (da_cN (de_var h 14 rfl rfl rfl) (da_cC de_int da_nil))) (da_cT (de_tup (da_cN (de_var h 14 rfl rfl rfl) (da_cC de_int da_nil))) da_nil))).frz (wo_cat (.ref 0 rfl) .lst (by rw [List.length_map]; simp; omega) fun p => ⟨p, rfl, by rw [List.map_append]; rfl⟩)) fun p2 => ?_))
        refine wss_perm (List.Perm.swap _ _ _) (wss_drop (key8 p2 x y kd hi wi _ _ _ _ _ T3 ?_ (hT3.le (by omega))))
        have m0 := ok.nn
        have hm0 : 0 ≤ m := by
          obtain ⟨z, hz, rfl⟩ := List.mem_map.mp hm
          exact (m0 z hz).1
        have nin : ∀ t : Int, ((m + 1 + (r2 : Int), t) : Pt) ∉ fl := fun t z => by
          have := hmax _ (List.mem_map_of_mem (f := fun q : Pt => q.1) z)
          simp only at this
          omega
        have e2 : ([(m + 1 + (r2 : Int), 7), (m + 1 + (r2 : Int), 8)] : List Pt) = [(m + 1 + (r2 : Int), 7)] ++ [(m + 1 + (r2 : Int), 8)] := rfl
        rw [e2, ← List.append_assoc]
        have ok1 := ok.add (q := (m + 1 + (r2 : Int), 7)) (by omega) (nin 7) ⟨by show 0 ≤ m + 1 + (r2 : Int); omega, by show (0 : Int) ≤ 7; decide⟩
        refine ok1.add (by simp; omega) (fun z => ?_) ⟨by show 0 ≤ m + 1 + (r2 : Int); omega, by show (0 : Int) ≤ 8; decide⟩
        rcases List.mem_append.mp z with z | z
        · exact nin 8 z
        · have := List.mem_singleton.mp z
          injection this with _ e
          exact absurd e (by decide)
      · exact ⟨fun c => (nomatch c), fun _ => wss_nil (key8 pf x y kd hi wi _ _ _ _ fl T2 ok (hT2.le (by omega)))⟩
    -- one taken away
    have key6 : ∀ (pf : Addr) (x y : Nat) (kd : D) (hi wi : Nat) (o10 o11 o12 : Option D) (fl : List Pt) (T : Tn), FOk fl → T.Ok (n + 20) → WSs X' ((defBody (TH.top 75)).drop 5) (roomEnv p x y kd hi wi (some (.ref pf)) o10 o11 o12 none) ((pf, .lst (fl.map sqD)) :: M.set kk (p, T.O)) { nx := fun _ M' => Rtn QD .non M', rt := Rtn QD } := by
      intro pf x y kd hi wi o10 o11 o12 fl T ok hT
      have hl := ok.len
      refine wss_cons (ws_if (WW.wt (ww_and (wt_cmp (we_take h B rfl (M0 := (pf, .lst (fl.map sqD)) :: M) (kk := kk + 1) hM (de_var h 0 rfl rfl rfl) (below := 3) de_int hT (by omega) (by decide) (by decide) fun r8 T2 hr8 hT2 => DE.to de_int (wo_eqi ⟨_, rfl, fun e => ?_, fun e => ?_⟩))))))
      · refine ww_and1 (DT.to (d := decide ((4 : Int) < fl.length)) (dt_cmp (DE.as (d' := .int (fl.length : Int)) (de_callB h rfl B.f_len boot_len (da_cN (de_var h 7 rfl rfl rfl) da_nil) (wc_len (.ref 0 rfl) ⟨rfl, rfl⟩)) (by rw [List.length_map])) de_int (wo_gt ⟨rfl, rfl⟩)) ⟨fun c => ?_, fun c => wss_nil (key7 pf x y kd hi wi _ _ _ fl T2 ok (hT2.le (by omega)))⟩)
        have c' := of_decide_eq_true c
        refine wss_one (ws_removeW h 0 (de_var h 7 rfl rfl rfl) rfl (datB_sqs 59 fl) (we_of h B rfl (M0 := (pf, .lst (fl.map sqD)) :: M) (kk := kk + 1) hM (de_var h 0 rfl rfl rfl) (DE.to (d := .lst ((srtP fl).map sqD)) (DO.frz (mo := .lst ((srtP fl).map sqD)) (do_callB h rfl B.f_sorted boot_sorted (da_cN (de_var h 7 rfl rfl rfl) da_nil) (wc_sorted h (.ref 0 rfl) (datB_sqs 49 fl) (pts_alike fl) (pts_sortable fl) fun p => ⟨p, rfl, by rw [srtP_D]⟩))) ⟨(srtP fl).map sqD, rfl, fun _ => .lst, fun e => ?_, ?_, fun rr g T3 hg hT3 => ?_⟩) hT2 (by omega)))
        · have := congrArg List.length (List.map_eq_nil_iff.mp e)
          rw [(srtP_perm fl).length_eq, List.length_nil] at this
          omega
        · rw [List.length_map, (srtP_perm fl).length_eq]; omega
        · rw [List.getElem?_map] at hg
          cases ez : (srtP fl)[rr]? with
          | none => rw [ez] at hg; cases hg
          | some z =>
            rw [ez] at hg
            cases hg
            have hz : z ∈ fl := (srtP_perm fl).mem_iff.mp (List.mem_of_getElem? ez)
            obtain ⟨i1, i2⟩ := idxP hz
            refine ⟨fl.idxOf z, sqD z, rfl, datB_sq 59 z, by rw [List.getElem?_map, i1]; rfl, by rw [eqD_sq]; simp, fun m z' hm hz' => ?_, ?_⟩
            · rw [List.getElem?_map] at hz'
              cases ey : fl[m]? with
              | none => rw [ey] at hz'; cases hz'
              | some y =>
                rw [ey] at hz'
                cases hz'
                rw [eqD_sq]
                exact decide_eq_false (i2 m y hm ey)
            · have k7 := key7 pf x y kd hi wi o10 o11 o12 (fl.eraseIdx (fl.idxOf z)) T3 (ok.del (by omega) _) (hT3.le (by omega))
              rw [← erase_map] at k7
              exact k7
      · exact ⟨fun c => (nomatch c), fun _ => wss_nil (key7 pf x y kd hi wi _ _ _ fl T2 ok (hT2.le (by omega)))⟩
    -- squares more at its sides
    have key5 : ∀ (pf : Addr) (x y : Nat) (kd : D) (hi wi : Nat) (fl : List Pt) (T : Tn), FOk fl → T.Ok (n + 6) → WSs X' ((defBody (TH.top 75)).drop 4) (roomEnv p x y kd hi wi (some (.ref pf)) none none none none) ((pf, .lst (fl.map sqD)) :: M.set kk (p, T.O)) { nx := fun _ M' => Rtn QD .non M', rt := Rtn QD } := by
      intro pf x y kd hi wi fl T ok hT
      refine wss_cons (ws_for h (wi_rng1 h rfl B.f_range (wa_cons (we_take h B rfl (M0 := (pf, .lst (fl.map sqD)) :: M) (kk := kk + 1) hM (de_var h 0 rfl rfl rfl) (below := 5) de_int hT (by omega) (by decide) (by decide) fun r5 T2 hr5 hT2 => wa_nil ⟨(r5 : Int), rfl, by omega, by omega,
        (fun i ρ' M' => ∃ o10 o11 o12 fl T, ρ' = roomEnv p x y kd hi wi (some (.ref pf)) o10 o11 o12 none ∧ M' = (pf, .lst (fl.map sqD)) :: M.set kk (p, Tn.O T) ∧ FOk fl ∧ T.Ok (n + 7 + i)),
        ⟨none, none, none, fl, T2, rfl, rfl, ok, hT2⟩, fun _ _ _ _ => trivial, ?_, ?_⟩))))
      · rintro i d ρ' M' hd ⟨o10, o11, o12, fl, T, rfl, rfl, ok, hT⟩
        have hi5 : i < 5 := by
          have := (List.getElem?_eq_some_iff.mp hd).1
          simp [rngD] at this
          omega
        have hl := ok.len
        refine wg_name h 10 rfl rfl ?_
        refine wss_cons (ws_set h 11 rfl rfl (DE.to (do_lst da_nil).frz ?_))
        refine wss_cons (ws_forT h fl sqD (fun t ρ' M' => ∃ o12, ρ' = roomEnv p x y kd hi wi (some (.ref pf)) (some d) (some (.lst (((fl.take t).flatMap (nbr fl)).map sqD))) o12 none ∧ M' = (pf, .lst (fl.map sqD)) :: M.set kk (p, Tn.O T))
          (fi_ref 0 (de_var h 7 rfl rfl rfl) rfl rfl (fun i ρ' M' ⟨_, _, e⟩ => by subst e; exact .ref 0 rfl)) ⟨o12, rfl, rfl⟩ ?_ ?_)
        · rintro t s ρ' M' ht ⟨o12, rfl, rfl⟩
          have nl := flat_len2 (nbr fl) 4 12 (fl.take t) (nbr_len fl) (take_len _ _ _ hl)
          have nl2 := nbr_len fl s
          refine wg_name h 12 rfl rfl ?_
          refine wss_one (ws_set h 11 rfl rfl (DE.to (d := .lst (((fl.take (t + 1)).flatMap (nbr fl)).map sqD)) (DE.as (DO.frz (do_bin (de_var h 11 rfl rfl rfl) (DO.frz (do_lcA h B (besideL s) sqD (fun q => !decide (q ∈ fl) && decide (0 ≤ if q.2 < q.1 then q.2 else q.1)) sqD [("_law_own", 13)] (tg_name h 13 rfl rfl (by simp)) rfl ⟨wi_lstE (de_call h (ok__law_beside B) rfl (da_cN (de_var h 12 rfl rfl rfl) da_nil) ⟨s, rfl, rfl, rfl⟩) rfl, by simp [besideL], fun q hq => ⟨_, rfl, fun X' ⟨h, B, _⟩ m => ?_, fun _ X' ⟨h, B, _⟩ m => (de_var h 13 rfl rfl rfl)⟩⟩)) (wo_cat .lst .lst (by
              unfold nbr at nl2
              simp only [List.length_map]
              omega) fun p => ⟨p, rfl, rfl⟩))) (by rw [take_flat _ ht, List.map_append]; rfl)) ⟨_, rfl, rfl⟩))
          exact DW.dt (dw_and (dt_cmp (de_var h 13 rfl rfl rfl) (de_var h 7 rfl rfl rfl) (wo_nin h .id (.ref 1 rfl) (datB_sq 59 q) (datB_sqs 59 fl) ⟨congrArg (fun z => D.bl (!z)) (anyD_sq fl q), rfl⟩)) fun _ => dw_and1 (dt_cmp (de_callB h rfl B.f_min boot_min (da_cN (de_var h 13 rfl rfl rfl) da_nil) (wc_min2 h ⟨rfl, rfl⟩)) de_int (wo_ge ⟨rfl, rfl⟩)))
        · rintro ρ' M' ⟨o12, rfl, rfl⟩
          rw [List.take_length]
          have nl := flat_len2 (nbr fl) 4 12 fl (nbr_len fl) hl
          refine wss_one (ws_if (DT.to (d := decide ((fl.length : Int) < 12)) (dt_cmp (DE.as (d' := .int (fl.length : Int)) (de_callB h rfl B.f_len boot_len (da_cN (de_var h 7 rfl rfl rfl) da_nil) (wc_len (.ref 0 rfl) ⟨rfl, rfl⟩)) (by rw [List.length_map])) (de_var h 1 rfl rfl rfl) (wo_lt ⟨rfl, rfl⟩)) ⟨fun c => ?_, fun c => wss_nil ⟨_, _, _, fl, T, rfl, rfl, ok, hT.le (by omega)⟩⟩))
          have c' := of_decide_eq_true c
          refine wss_one (ws_appendW 0 (de_var h 7 rfl rfl rfl) rfl (we_of h B rfl (M0 := (pf, .lst (fl.map sqD)) :: M) (kk := kk + 1) hM (de_var h 0 rfl rfl rfl) (we_frz1 (mo := .lst []) (wo_sortedSet h rfl B.f_sorted rfl B.f_set (DE.to (de_var h 11 rfl rfl rfl) ⟨fl.flatMap (nbr fl), .lst, by omega, fun q hq => ?_, fun out p2 ond omem => ⟨p2, _, _, rfl, rfl, out.map sqD, rfl, fun _ => .lst, fun e => ?_, ?_, fun rr g T3 hg hT3 => ?_⟩⟩))) hT (by omega)))
          · obtain ⟨s, _, hs⟩ := List.mem_flatMap.mp hq
            exact (mem_nbr hs).2
          · have e2 := List.map_eq_nil_iff.mp e
            obtain ⟨z, hz⟩ := List.exists_mem_of_ne_nil _ (near_ne ok)
            have := (omem z).mpr hz
            rw [e2] at this
            cases this
          · rw [List.length_map]
            have : out.length ≤ (fl.flatMap (nbr fl)).length := sub_len ond fun z hz => (omem z).mp hz
            omega
          · rw [List.getElem?_map] at hg
            cases ez : out[rr]? with
            | none => rw [ez] at hg; cases hg
            | some z =>
              rw [ez] at hg
              cases hg
              obtain ⟨s, _, hs⟩ := List.mem_flatMap.mp ((omem z).mp (List.mem_of_getElem? ez))
              have hz := mem_nbr hs
              refine ⟨rfl, by rw [List.length_map]; omega, _, _, _, fl ++ [z], T3, rfl, ?_, ok.add (by omega) hz.1 hz.2, hT3.le (by omega)⟩
              show (pf, MO.lst _) :: M.set kk (p, T3.O) = _
              rw [List.map_append]
              rfl
      · rintro ρ' M' ⟨o10, o11, o12, fl, T, rfl, rfl, ok, hT⟩
        have e : (rngD 0 ((r5 : Int)).toNat).length = r5 := by simp [rngD]
        rw [e] at hT
        exact key6 pf x y kd hi wi _ _ _ fl T ok (hT.le (by omega))
    -- the oblong
    have key4 : ∀ (x y : Nat) (kd : D) (hi wi : Nat) (T : Tn), 1 ≤ hi → hi < 5 → 1 ≤ wi → wi < 5 → T.Ok (n + 6) → WSs X' ((defBody (TH.top 75)).drop 3) (roomEnv p x y kd hi wi none none none none none) (M.set kk (p, T.O)) { nx := fun _ M' => Rtn QD .non M', rt := Rtn QD } := by
      intro x y kd hi wi T h1 h2 h3 h4 hT
      obtain ⟨_, _, _, bl⟩ := box_ok hi h2 wi h4
      refine wss_cons (ws_set h 7 rfl rfl (DO.to (mo := .lst (((shiftL x y (boxL hi wi)).take 12).map sqD)) (wo_slice (DE.to (d := .lst ((shiftL x y (boxL hi wi)).map sqD)) (DE.as (DO.frz (do_lcM h B (boxL hi wi) sqD (fun q => sqD ((x : Int) + q.1, (y : Int) + q.2)) [("_law_i", 8), ("_law_j", 9)] (tg_pair h 8 9 rfl rfl rfl rfl (by simp) (by simp)) rfl ⟨wi_tupE (de_call h (ok__law_boxed B) rfl (da_cN (de_var h 6 rfl rfl rfl) (da_cN (de_var h 5 rfl rfl rfl) da_nil)) ⟨hi, wi, rfl, by omega, by omega, rfl, rfl⟩) rfl, by omega, fun q _ => ⟨_, rfl, fun X' ⟨h, B, _⟩ m => (de_tup (da_cB (de_bin (de_var h 2 rfl rfl rfl) (de_var h 8 rfl rfl rfl) (by walk_at "op")) (da_cB (de_bin (de_var h 3 rfl rfl rfl) (de_var h 9 rfl rfl rfl) (by walk_at "op")) da_nil)))⟩⟩)) (by unfold shiftL; show D.lst _ = D.lst _; rw [List.map_map]; rfl)) ⟨rfl, ⟨12, rfl, (de_var h 1 rfl rfl rfl)⟩, _, .lst, fun p => ⟨p, rfl, by rw [cut12, List.map_take]⟩⟩)) fun pf => ?_))
      exact key5 pf x y kd hi wi _ T (first_ok h1 h2 h3 h4) hT
    refine wss_cons (ws_asg (we_tup (wa_cons (we_take h B rfl (M0 := M) (kk := kk) hM (de_var h 0 rfl rfl rfl) (below := 3) de_int hT (by omega) (by decide) (by decide) fun x T1 hx hT1 => wa_cons (we_take h B rfl (M0 := M) (kk := kk) hM (de_var h 0 rfl rfl rfl) (below := 3) de_int hT1 (by omega) (by decide) (by decide) fun y T2 hy hT2 => wa_cons (we_take h B rfl (M0 := M) (kk := kk) hM (de_var h 0 rfl rfl rfl) (below := 8) de_int hT2 (by omega) (by decide) (by decide) fun kd T3 hkd hT3 => wa_nil ⟨by simp, wg_tup h (wgs_cons h 2 rfl rfl (wgs_cons h 3 rfl rfl (wgs_cons h 4 rfl rfl (wgs_nil ?_)))) rfl⟩))))) (hw := h.sw0 fun E e => by cases E; cases e; rfl))
    refine wss_cons (ws_par h 5 6 rfl rfl (by decide) rfl rfl (h.sw0 fun E e => by cases E; cases e; rfl) (we_bin (DE.to de_int (we_take h B rfl (M0 := M) (kk := kk) hM (de_var h 0 rfl rfl rfl) (below := 3) de_int hT3 (by omega) (by decide) (by decide) fun w T4 hw hT4 => wo_add (we_bin (DE.to de_int (we_take h B rfl (M0 := M) (kk := kk) hM (de_var h 0 rfl rfl rfl) (below := 2) de_int hT4 (by omega) (by decide) (by decide) fun hh T5 hhh hT5 => wo_add ?_)))))))
    have ew : (2 : Int) + (w : Int) = ((2 + w : Nat) : Int) := by omega
    have eh : (2 : Int) + (hh : Int) = ((2 + hh : Nat) : Int) := by omega
    rw [ew, eh]
    refine wss_cons (ws_if (DT.to (dt_cmp (de_var h 4 rfl rfl rfl) de_int (wo_eqi ⟨rfl, rfl⟩)) ⟨fun c => ?_, fun c => ?_⟩))
    · refine wss_one (ws_par h 5 6 rfl rfl (by decide) rfl rfl (h.sw0 fun E e => by cases E; cases e; rfl) (we_bin (DE.to de_int (we_take h B rfl (M0 := M) (kk := kk) hM (de_var h 0 rfl rfl rfl) (below := 3) de_int hT5 (by omega) (by decide) (by decide) fun w2 T6 hw2 hT6 => wo_add (DE.to de_int ?_)))))
      have ew2 : (1 : Int) + (w2 : Int) = ((1 + w2 : Nat) : Int) := by omega
      rw [ew2]
      exact key4 x y _ 1 (1 + w2) T6 (by omega) (by omega) (by omega) (by omega) (hT6.le (by omega))
    · refine wss_one (ws_if (DT.to (DW.dt (dw_and (dt_cmp (de_var h 4 rfl rfl rfl) de_int (wo_eqi ⟨rfl, rfl⟩)) fun _ => dw_and1 (dt_cmp (de_var h 1 rfl rfl rfl) de_int (wo_gt ⟨rfl, rfl⟩)))) ⟨fun c => ?_, fun c => wss_nil ?_⟩))
      · refine wss_one (ws_asg (DE.to (de_tup (da_cC de_int (da_cC de_int da_nil))) (wg_tup h (wgs_cons h 5 rfl rfl (wgs_cons h 6 rfl rfl (wgs_nil ?_))) rfl)) (hw := h.sw0 fun E e => by cases E; cases e; rfl))
        exact key4 x y _ 4 3 T5 (by omega) (by omega) (by omega) (by omega) (hT5.le (by omega))
      · exact key4 x y _ (2 + hh) (2 + w) T5 (by omega) (by omega) (by omega) (by omega) (hT5.le (by omega))
end DL

set_option maxHeartbeats 8000000
/-! walks: _law_pairs_at, _law_suits, _law_fitting, _law_begin. -/
namespace DL
open PySem PySem.Spec PyProof.Rows L2 Evl

local macro_rules
  | `(tactic| walk_at "op") => `(tactic| first
    | exact wo_add ⟨rfl, rfl⟩ | exact wo_sub ⟨rfl, rfl⟩ | exact wo_lt ⟨rfl, rfl⟩ | exact wo_le ⟨rfl, rfl⟩ | exact wo_gt ⟨rfl, rfl⟩ | exact wo_ge ⟨rfl, rfl⟩
    | exact wo_eqi ⟨rfl, rfl⟩ | exact wo_nei ⟨rfl, rfl⟩ | exact wo_eqb ⟨rfl, rfl⟩ | exact wo_neb ⟨rfl, rfl⟩ | exact wo_isN ⟨rfl, rfl⟩ | exact wo_notN ⟨rfl, rfl⟩)
  | `(tactic| walk_at "sq") => `(tactic| first | exact Sq.tup | exact Sq.lst | exact Sq.tupN | exact Sq.ref _ rfl)
  | `(tactic| walk_at "at") => `(tactic| first | rfl | assumption)
  | `(tactic| walk_at "isi") => `(tactic| first | exact wc_isI (by assumption) ⟨rfl, rfl⟩ | exact wc_isB (by assumption) ⟨rfl, rfl⟩ | exact wc_isT (by assumption) ⟨rfl, rfl⟩ | exact wc_isL (by assumption) ⟨rfl, rfl⟩ | exact wc_isLT (by assumption) ⟨rfl, rfl⟩ | exact wc_isBS (by assumption) ⟨rfl, rfl⟩)
  | `(tactic| walk_at "len") => `(tactic| exact wc_len (by first | exact Sq.tup | exact Sq.lst | exact Sq.tupN | exact Sq.ref _ rfl) ⟨rfl, rfl⟩)
  | `(tactic| walk_at "tuple") => `(tactic| exact wc_tuple (by first | exact Sq.lst | exact Sq.tup | exact Sq.tupN | exact Sq.ref _ rfl) ⟨rfl, rfl⟩)
  | `(tactic| walk_at "all") => `(tactic| exact wc_all (by assumption) (by first | exact SqO.lst | exact SqO.ref _ rfl) ⟨rfl, rfl⟩)

local macro_rules
  | `(tactic| walk_at "is_number") => `(tactic| exact ⟨_, rfl, by assumption, rfl, rfl⟩)
  | `(tactic| walk_at "tupled") => `(tactic| exact ⟨_, rfl, by assumption, rfl, rfl⟩)

theorem anyD_ref {r : List Pt} (q : Pt) : anyD (r.map sqD) (sqD q) = decide (q ∈ r) := anyD_sq r q
def s_law_pairs_at : SpD := fun ds M Q => ∃ (r : List Pt), ds = [roomD r] ∧ r.length ≤ 1000 ∧ Q (.lst ((atL r).map spotD)) M
theorem ok__law_pairs_at {X : Cx} (B : Bs X) : Dn X "_law_pairs_at" 3 ["_law_ground"] s_law_pairs_at := by
  refine def_by B 76 61 61 (k := 2) (N := ["_law_ground", "_law_found", "_law_own", "_law_its"]) rfl rfl ⟨rfl, rfl, rfl, by decide +kernel, rfl, by decide +kernel, by decide +kernel⟩ (fun _ _ _ _ _ _ us hl => match us, hl with | [_], _ => rfl) ?len ?body
  case len => rintro _ _ _ ⟨_, rfl, _⟩; rfl
  case body =>
    rintro X' h B _ M QD ⟨r, rfl, hl, q⟩
    refine wss_cons (ws_lcM h B 1 r sqD (fun s => spotD [s]) [("_law_own", 2)] (tg_name h 2 rfl rfl (by simp)) rfl ⟨wi_tupE (de_var h 0 rfl rfl rfl) rfl, by omega, fun s _ => ⟨_, rfl, fun X' ⟨h, B, _⟩ m => (de_tup (da_cN (de_var h 2 rfl rfl rfl) da_nil))⟩⟩ fun p => ?_)
    refine wss_fz 1 rfl ?_
    have e0 : (MO.lst (r.map fun s => spotD [s])).frz = .lst (((r.map fun s => [s]) ++ (r.take 0).flatMap (pairsL r)).map spotD) := by
      rw [List.take_zero, List.flatMap_nil, List.append_nil, List.map_map]; rfl
    rw [e0]
    refine wss_cons (ws_forT h r sqD (fun i ρ' M' => ∃ o2 o3, ρ' = [some (roomD r), some (.lst (((r.map fun s => [s]) ++ (r.take i).flatMap (pairsL r)).map spotD)), o2, o3] ∧ M = M') (fi_tup (de_var h 0 rfl rfl rfl) rfl) ⟨none, none, rfl, rfl⟩ ?_ ?_)
    · rintro i s ρ' M' hx ⟨o2, o3, rfl, rfl⟩
      have fl := flat_len2 (pairsL r) 2 1000 (r.take i) (fun s => pairsL_len r s) (take_len _ _ _ hl)
      have et : ((r.map fun s => [s]) ++ (r.take (i + 1)).flatMap (pairsL r)).map spotD = ((r.map fun s => [s]) ++ (r.take i).flatMap (pairsL r)).map spotD ++ ([((s.1, s.2 + 1) : Pt), (s.1 + 1, s.2)].filter fun n => decide (n ∈ r)).map fun n => spotD [s, n] := by
        rw [take_flat _ hx, ← List.append_assoc, List.map_append]
        congr 1
        unfold pairsL
        rw [List.map_map]
        rfl
      refine wg_name h 2 rfl rfl ?_
      refine wss_one (ws_set h 1 rfl rfl (DE.to (d := .lst (((r.map fun s => [s]) ++ (r.take (i + 1)).flatMap (pairsL r)).map spotD)) (DE.as (DO.frz (do_bin (de_var h 1 rfl rfl rfl) (DO.frz (do_lcA h B [(s.1, s.2 + 1), (s.1 + 1, s.2)] sqD (fun n => decide (n ∈ r)) (fun n => spotD [s, n]) [("_law_its", 3)] (tg_name h 3 rfl rfl (by simp)) rfl
        ⟨wi_tupE (DE.as (de_tup (da_cons (de_call h (ok__law_over B) rfl (da_cN (de_var h 2 rfl rfl rfl) (da_cC de_int da_nil)) ⟨s, 2, rfl, by simp [kindsL], rfl, rfl⟩) (da_cons (de_call h (ok__law_over B) rfl (da_cN (de_var h 2 rfl rfl rfl) (da_cC de_int da_nil)) ⟨s, 1, rfl, by simp [kindsL], rfl, rfl⟩) da_nil))) rfl) rfl, by simp, fun n hn => ⟨_, rfl, fun X' ⟨h, B, _⟩ m => dt_cmp (de_var h 3 rfl rfl rfl) (de_var h 0 rfl rfl rfl) (wo_in h .id .tup (datB_sq 59 n) (datB_sqs 59 r) ⟨congrArg D.bl (anyD_sq r n), rfl⟩), fun _ X' ⟨h, B, _⟩ m => (de_tup (da_cN (de_var h 2 rfl rfl rfl) (da_cN (de_var h 3 rfl rfl rfl) da_nil)))⟩⟩)) (wo_cat .lst .lst (by
          simp only [List.length_map, List.length_append]
          refine Nat.le_trans (Nat.add_le_add_left (List.length_filter_le _ _) _) ?_
          simp only [List.length_cons, List.length_nil]
          omega) fun p => ⟨p, rfl, rfl⟩))) (congrArg D.lst et.symm)) ⟨_, _, rfl, rfl⟩))
    · rintro ρ' M' ⟨o2, o3, rfl, rfl⟩
      rw [List.take_length]
      have fl := flat_len2 (pairsL r) 2 1000 r (fun s => pairsL_len r s) hl
      have pl := pointsL_len r
      have ea : (atL r).map spotD = ((r.map fun s => [s]) ++ r.flatMap (pairsL r)).map spotD ++ (pointsL r).map fun s => spotD (four s) := by
        unfold atL
        simp only [List.map_append, List.map_map]
        rfl
      refine wss_one (ws_ret (DE.to (d := .lst ((atL r).map spotD)) (DE.as (DO.frz (do_bin (de_var h 1 rfl rfl rfl) (DO.frz (do_lcM h B (pointsL r) sqD (fun s => spotD (four s)) [("_law_own", 2)] (tg_name h 2 rfl rfl (by simp)) rfl ⟨wi_tupE (de_call h (ok__law_points B) rfl (da_cN (de_var h 0 rfl rfl rfl) da_nil) ⟨r, rfl, hl, rfl, rfl⟩) rfl, by omega, fun s _ => ⟨_, rfl, fun X' ⟨h, B, _⟩ m => de_call h (ok__law_four B) rfl (da_cN (de_var h 2 rfl rfl rfl) da_nil) ⟨s, rfl, rfl, rfl⟩⟩⟩)) (wo_cat .lst .lst (by simp only [List.length_map, List.length_append]; omega) fun p => ⟨p, rfl, rfl⟩))) (congrArg D.lst ea.symm)) (.now q)))

theorem atI_last {α : Type} (xs : List α) (x : α) : L2.atI (xs ++ [x]) (-1) = some x := by
  have e1 : ixN (xs ++ [x]).length (-1) = some xs.length := by
    unfold ixN
    rw [List.length_append, List.length_singleton, if_neg (by decide), if_pos (by omega)]
    congr 1
    omega
  unfold L2.atI
  rw [e1]
  simp
theorem cut_init {α : Type} (xs : List α) (x : α) : cutA (xs ++ [x]) none (some (-1)) = xs := by
  have e : HT.sIx (xs ++ [x]).length (xs ++ [x]).length (some (-1)) = xs.length := by
    show (if (-1 : Int) < 0 then (-1 + ((xs ++ [x]).length : Int)).toNat else min (-1 : Int).toNat (xs ++ [x]).length) = _
    rw [if_pos (by decide), List.length_append, List.length_singleton]
    omega
  unfold cutA
  rw [HT.sIx_none, e]
  simp
def s_law_suits : SpD := fun ds M Q => ∃ (r spots : List Pt) (row : List Int) (x : Int), ds = [roomD r, spotD spots, intsT (row ++ [x])] ∧ r.length ≤ 1000 ∧ row.length < spots.length ∧ spots.length ≤ 4 ∧ x ∈ kindsL ∧ Q (.bl (suitsB r spots row x)) M
theorem ok__law_suits {X : Cx} (B : Bs X) : Dn X "_law_suits" 2 ["_law_ground", "_law_spots_so", "_law_row_so"] s_law_suits := by
  refine def_by B 77 62 62 (k := 1) (N := ["_law_ground", "_law_spots_so", "_law_row_so", "_law_last_so", "_law_its", "_law_own", "_law_kind_so"]) rfl rfl ⟨rfl, rfl, rfl, by decide +kernel, rfl, by decide +kernel, by decide +kernel⟩ (fun _ _ _ _ _ _ us hl => match us, hl with | [_, _, _], _ => rfl) ?len ?body
  case len => rintro _ _ _ ⟨_, _, _, _, rfl, _⟩; rfl
  case body =>
    rintro X' h B _ M QD ⟨r, spots, row, x, rfl, hl, hrl, hs4, hx, q⟩
    have e1 : L2.atI (spots.map sqD) ((row.length : Int)) = some (sqD (spots.getD row.length (0, 0))) := L2.atI_nat (by rw [List.getElem?_map, List.getD_eq_getElem?_getD, List.getElem?_eq_getElem hrl]; rfl)
    have e2 : L2.atI ((row ++ [x]).map D.int) (-1) = some (.int x) := by rw [List.map_append]; exact atI_last _ _
    have elen : (((row ++ [x]).map D.int).length : Int) - 1 = (row.length : Int) := by simp
    generalize hlast : spots.getD row.length (0, 0) = last at e1
    have e0 : suitsB r spots row x = (if spots.length = 1 then decide (x = 0) || decide (led last x ∈ r) else (spots.zip row).all fun z => chkB z.1 z.2 last x) := by unfold suitsB; rw [hlast]
    refine wss_cons (ws_par h 3 4 rfl rfl (by decide) rfl rfl (h.sw0 fun E e => by cases E; cases e; rfl) (DE.to (de_ix (de_var h 1 rfl rfl rfl) (DE.as (d' := .int (row.length : Int)) (de_bin (de_callB h rfl B.f_len boot_len (da_cN (de_var h 2 rfl rfl rfl) da_nil) (by walk_at "len")) de_int (by walk_at "op")) (congrArg D.int elen)) .tup e1) (DE.to (de_ix (de_var h 2 rfl rfl rfl) (de_neg de_int) .tup e2) ?_)))
    refine wss_cons (ws_if (DT.to (d := decide (((spots.map sqD).length : Int) = 1)) (dt_cmp (de_callB h rfl B.f_len boot_len (da_cN (de_var h 1 rfl rfl rfl) da_nil) (by walk_at "len")) de_int (by walk_at "op")) ⟨fun c => ?_, fun c => wss_nil ?_⟩))
    · have c' : spots.length = 1 := by have := of_decide_eq_true c; rw [List.length_map] at this; omega
      rw [e0, if_pos c'] at q
      exact wss_one (ws_ret (DE.to (de_or (de_cmp (de_var h 4 rfl rfl rfl) de_int (by walk_at "op")) fun _ => de_one (de_cmp (de_call h (ok__law_over B) rfl (da_cN (de_var h 3 rfl rfl rfl) (da_cN (de_var h 4 rfl rfl rfl) da_nil)) ⟨last, x, rfl, hx, rfl, rfl⟩) (de_var h 0 rfl rfl rfl) (wo_in h .id .tup (datB_sq 59 _) (datB_sqs 59 r) ⟨congrArg D.bl (anyD_sq r _), rfl⟩))) (.now q)))
    · have c' : ¬ spots.length = 1 := by have := of_decide_eq_false c; rw [List.length_map] at this; omega
      rw [e0, if_neg c'] at q
      refine wss_cons (ws_forT h (spots.zip row) (fun z => .tup [sqD z.1, .int z.2]) (fun i ρ' M' => ∃ o5 o6, ρ' = [some (roomD r), some (spotD spots), some (intsT (row ++ [x])), some (sqD last), some (.int x), o5, o6] ∧ M = M' ∧ ((spots.zip row).take i).all (fun z => chkB z.1 z.2 last x) = true)
        (wi_zp h rfl B.f_zip (wa_cons (DE.to (de_var h 1 rfl rfl rfl) (wa_cons (we_sliceT (DE.to (de_var h 2 rfl rfl rfl) ⟨rfl, ⟨-1, rfl, (de_neg de_int)⟩, _, rfl, wa_nil ⟨_, _, spots.map sqD, row.map .int, rfl, .tup, by rw [List.map_append, List.map_cons, List.map_nil, cut_init]; exact .tup, zp_typed spots row, rfl, fun _ _ _ _ => ⟨.tup, by rw [List.map_append, List.map_cons, List.map_nil, cut_init]; exact .tup⟩⟩⟩)))))) ⟨none, none, rfl, rfl, by simp⟩ ?_ ?_)
      · rintro i ⟨s, a⟩ ρ' M' hz ⟨o5, o6, rfl, rfl, hall⟩
        refine wg_tup h (wgs_cons h 5 rfl rfl (wgs_cons h 6 rfl rfl (wgs_nil ?_))) rfl
        have bad : chkB s a last x = false → (spots.zip row).all (fun z => chkB z.1 z.2 last x) = false := fun e => by
          rw [← Bool.not_eq_true, List.all_eq_true]
          intro g
          have := g _ (List.mem_of_getElem? hz)
          rw [e] at this
          cases this
        have over : ∀ {k : Int}, (k = 1 ∨ k = 2) → k ∈ kindsL := fun {k} hk => by rcases hk with rfl | rfl <;> simp [kindsL]
        refine wss_cons (ws_if (DT.to (d := decide (led s 1 = last) && (decide (a = 1) != decide (x = 3))) (DW.dt (dw_and (dt_cmp (de_call h (ok__law_over B) rfl (da_cN (de_var h 5 rfl rfl rfl) (da_cC de_int da_nil)) ⟨s, 1, rfl, over (.inl rfl), rfl, rfl⟩) (de_var h 3 rfl rfl rfl) (wo_eqD h .id .id (datB_sq 59 _) (datB_sq 59 _) ⟨congrArg D.bl (eqD_sq _ _), rfl⟩)) fun _ => dw_and1 (dt_cmp (de_cmp (de_var h 6 rfl rfl rfl) de_int (by walk_at "op")) (de_cmp (de_var h 4 rfl rfl rfl) de_int (by walk_at "op")) (wo_neb ⟨rfl, rfl⟩)))) ⟨fun c1 => ?_, fun c1 => wss_nil ?_⟩))
        · have b1 := bad (by unfold chkB; rw [c1]; rfl)
          rw [b1] at q
          exact wss_one (ws_ret (DE.to de_bl (.now q)))
        refine wss_one (ws_if (DT.to (d := decide (led s 2 = last) && (decide (a = 2) != decide (x = 4))) (DW.dt (dw_and (dt_cmp (de_call h (ok__law_over B) rfl (da_cN (de_var h 5 rfl rfl rfl) (da_cC de_int da_nil)) ⟨s, 2, rfl, over (.inr rfl), rfl, rfl⟩) (de_var h 3 rfl rfl rfl) (wo_eqD h .id .id (datB_sq 59 _) (datB_sq 59 _) ⟨congrArg D.bl (eqD_sq _ _), rfl⟩)) fun _ => dw_and1 (dt_cmp (de_cmp (de_var h 6 rfl rfl rfl) de_int (by walk_at "op")) (de_cmp (de_var h 4 rfl rfl rfl) de_int (by walk_at "op")) (wo_neb ⟨rfl, rfl⟩)))) ⟨fun c2 => ?_, fun c2 => wss_nil ⟨_, _, rfl, rfl, ?_⟩⟩))
        · have b2 := bad (by unfold chkB; rw [c2]; simp)
          rw [b2] at q
          exact wss_one (ws_ret (DE.to de_bl (.now q)))
        · rw [List.take_succ, hz, List.all_append, hall]
          show (true && ([(s, a)].all fun z => chkB z.1 z.2 last x)) = true
          have : chkB s a last x = true := by unfold chkB; rw [c1, c2]; rfl
          simp [this]
      · rintro ρ' M' ⟨o5, o6, rfl, rfl, hall⟩
        rw [List.take_length] at hall
        rw [hall] at q
        exact wss_one (ws_ret (DE.to de_bl (.now q)))
def s_law_fitting : SpD := fun ds M Q => ∃ (r spots : List Pt) (lots : List (List Int)), ds = [roomD r, .lst (lots.map intsD), spotD spots] ∧ r.length ≤ 1000 ∧ lots.length = spots.length ∧ spots.length ≤ 4 ∧ (∀ l ∈ lots, l.length ≤ 5 ∧ ∀ k ∈ l, k ∈ kindsL) ∧ Q (.lst ((fitLaw r spots lots).map intsT)) M
theorem stepF_len (r spots : List Pt) (rows : List (List Int)) (lot : List Int) (h : lot.length ≤ 5) (n : Nat) (hn : rows.length ≤ n) : (stepF r spots rows lot).length ≤ 5 * n :=
  flat_len2 _ 5 n rows (fun row => by rw [List.length_map]; exact filter_len _ _ _ h) hn
theorem fold_rows (r spots : List Pt) : ∀ (lots : List (List Int)) (i : Nat), (∀ l ∈ lots, l.length ≤ 5) → (((lots.take i).foldl (stepF r spots) [[]]).length ≤ 5 ^ i) ∧ ∀ row ∈ (lots.take i).foldl (stepF r spots) [[]], row.length = (lots.take i).length
  | lots, 0, _ => ⟨by simp, fun row h => by simp at h; subst h; rfl⟩
  | lots, i + 1, h => by
    obtain ⟨h1, h2⟩ := fold_rows r spots lots i h
    cases e : lots[i]? with
    | none =>
      have : lots.take (i + 1) = lots.take i := by rw [List.take_succ, e]; simp
      rw [this]
      exact ⟨Nat.le_trans h1 (Nat.pow_le_pow_right (by decide) (by omega)), h2⟩
    | some l =>
      have : lots.take (i + 1) = lots.take i ++ [l] := by rw [List.take_succ, e]; rfl
      rw [this, List.foldl_append]
      refine ⟨?_, fun row hr => ?_⟩
      · have := stepF_len r spots _ l (h l (List.mem_of_getElem? e)) _ h1
        rw [Nat.pow_succ]
        simp only [List.foldl_cons, List.foldl_nil]
        omega
      · simp only [List.foldl_cons, List.foldl_nil] at hr
        obtain ⟨a, ha, x, _, _, rfl⟩ := mem_stepF.mp hr
        rw [List.length_append, List.length_append, h2 a ha]
        rfl
theorem ok__law_fitting {X : Cx} (B : Bs X) : Dn X "_law_fitting" 3 ["_law_ground", "_law_lots_so", "_law_spots_so"] s_law_fitting := by
  refine def_by B 78 63 63 (k := 2) (N := ["_law_ground", "_law_lots_so", "_law_spots_so", "_law_rows_so", "_law_lot_so", "_law_later_so", "_law_own", "_law_its"]) rfl rfl ⟨rfl, rfl, rfl, by decide +kernel, rfl, by decide +kernel, by decide +kernel⟩ (fun _ _ _ _ _ _ us hl => match us, hl with | [_, _, _], _ => rfl) ?len ?body
  case len => rintro _ _ _ ⟨_, _, _, rfl, _⟩; rfl
  case body =>
    rintro X' h B _ M QD ⟨r, spots, lots, rfl, hl, hll, hs4, hlots, q⟩
    have h5 : ∀ l ∈ lots, l.length ≤ 5 := fun l hl => (hlots l hl).1
    refine wss_cons (ws_set h 3 rfl rfl (DE.to (d := .lst ((([[]] : List (List Int))).map intsT)) (DE.as (do_lst (da_cT (de_tup da_nil) da_nil)).frz rfl) ?_))
    refine wss_cons (ws_forT h lots intsD (fun i ρ' M' => ∃ o4 o5 o6, ρ' = [some (roomD r), some (.lst (lots.map intsD)), some (spotD spots), some (.lst (((lots.take i).foldl (stepF r spots) [[]]).map intsT)), o4, o5, o6, none] ∧ M = M') (fi_lst (de_var h 1 rfl rfl rfl) rfl) ⟨none, none, none, rfl, rfl⟩ ?_ ?_)
    · rintro i lot ρ' M' hx ⟨o4, o5, o6, rfl, rfl⟩
      have hil : i < lots.length := (List.getElem?_eq_some_iff.mp hx).1
      obtain ⟨f1, f2⟩ := fold_rows r spots lots i h5
      have p5 : 5 ^ i ≤ 625 := Nat.le_trans (Nat.pow_le_pow_right (by decide) (by omega : i ≤ 4)) (by decide)
      have hlot := hlots lot (List.mem_of_getElem? hx)
      have et : (lots.take (i + 1)).foldl (stepF r spots) [[]] = stepF r spots ((lots.take i).foldl (stepF r spots) [[]]) lot := by
        rw [List.take_succ, hx, List.foldl_append]; rfl
      have etl : (lots.take i).length = i := by rw [List.length_take]; omega
      generalize (lots.take i).foldl (stepF r spots) [[]] = rows at f1 f2 et
      refine wg_name h 4 rfl rfl ?_
      refine wss_cons (ws_set h 5 rfl rfl (DE.to (do_lst da_nil).frz ?_))
      refine wss_cons (ws_forT h rows intsT (fun t ρ' M' => ∃ o6, ρ' = [some (roomD r), some (.lst (lots.map intsD)), some (spotD spots), some (.lst (rows.map intsT)), some (intsD lot), some (.lst ((stepF r spots (rows.take t) lot).map intsT)), o6, none] ∧ M = M') (fi_lst (de_var h 3 rfl rfl rfl) rfl) ⟨o6, rfl, rfl⟩ ?_ ?_)
      · rintro t row ρ' M' ht ⟨o6, rfl, rfl⟩
        have hrow := f2 row (List.mem_of_getElem? ht)
        have sl := stepF_len r spots (rows.take t) lot hlot.1 625 (take_len _ _ _ (by omega))
        have fl := filter_len (suitsB r spots row) lot 5 hlot.1
        refine wg_name h 6 rfl rfl ?_
        refine wss_one (ws_set h 5 rfl rfl (DE.to (d := .lst ((stepF r spots (rows.take (t + 1)) lot).map intsT)) (DE.as (DO.frz (do_bin (de_var h 5 rfl rfl rfl) (DO.frz (do_lcA h B lot .int (suitsB r spots row) (fun x => intsT (row ++ [x])) [("_law_its", 7)] (tg_name h 7 rfl rfl (by simp)) rfl ⟨wi_lstE (de_var h 4 rfl rfl rfl) rfl, by omega, fun x hx => ⟨_, rfl, fun X' ⟨h, B, _⟩ m => ?t1, fun _ X' ⟨h, B, _⟩ m => ?t2⟩⟩)) (wo_cat .lst .lst (by simp only [List.length_map]; omega) fun p => ⟨p, rfl, rfl⟩))) ?t3) ⟨_, rfl, rfl⟩))
        case t2 => exact DE.as (de_bin (de_var h 6 rfl rfl rfl) (de_tup (da_cN (de_var h 7 rfl rfl rfl) da_nil)) (wo_catT (by simp; omega) ⟨rfl, rfl⟩)) (by simp)
        case t1 => exact dt_val (de_call h (ok__law_suits B) rfl (da_cons (de_var h 0 rfl rfl rfl) (da_cons (de_var h 2 rfl rfl rfl) (da_cons (DE.as (d' := intsT (row ++ [x])) (de_bin (de_var h 6 rfl rfl rfl) (de_tup (da_cN (de_var h 7 rfl rfl rfl) da_nil)) (wo_catT (by simp; omega) ⟨rfl, rfl⟩)) (by simp)) da_nil))) ⟨r, spots, row, x, rfl, hl, by omega, hs4, hlot.2 x hx, rfl, rfl⟩)
        case t3 =>
          unfold stepF
          rw [take_flat _ ht, List.map_append, List.map_map]
          rfl
      · rintro ρ' M' ⟨o6, rfl, rfl⟩
        rw [List.take_length]
        exact wss_one (ws_set h 3 rfl rfl (DE.to (de_var h 5 rfl rfl rfl) ⟨some (intsD lot), some (.lst ((stepF r spots rows lot).map intsT)), o6, by rw [et]; rfl, rfl⟩))
    · rintro ρ' M' ⟨o4, o5, o6, rfl, rfl⟩
      obtain ⟨f1, f2⟩ := fold_rows r spots lots lots.length h5
      rw [List.take_length] at f1 f2 ⊢
      have p5 : 5 ^ lots.length ≤ 625 := Nat.le_trans (Nat.pow_le_pow_right (by decide) (by omega : lots.length ≤ 4)) (by decide)
      unfold fitLaw at q
      generalize lots.foldl (stepF r spots) [[]] = rows at f1 f2 q
      refine wss_cons (ws_if (DT.to (d := decide (((spots.map sqD).length : Int) = 4)) (dt_cmp (de_callB h rfl B.f_len boot_len (da_cN (de_var h 2 rfl rfl rfl) da_nil) (by walk_at "len")) de_int (by walk_at "op")) ⟨fun c => ?_, fun c => wss_nil ?_⟩))
      · have c' : spots.length = 4 := by have := of_decide_eq_true c; rw [List.length_map] at this; omega
        rw [if_pos c'] at q
        refine wss_cons (ws_lcA h B 3 rows intsT metB intsT [("_law_own", 6)] (tg_name h 6 rfl rfl (by simp)) rfl ⟨wi_lstE (de_var h 3 rfl rfl rfl) rfl, by omega, fun row hr => ⟨_, rfl, fun X' ⟨h, B, _⟩ m => ?t1, fun _ X' ⟨h, B, _⟩ m => (de_var h 6 rfl rfl rfl)⟩⟩ fun p => wss_fz 3 rfl (wss_nil (wss_one (ws_ret (DE.to (de_var h 3 rfl rfl rfl) (.now q))))))
        have hr4 := f2 row hr
        have g0 : L2.atI (row.map D.int) 0 = some (.int (row.getD 0 0)) := getD_atI (i := 0) (by omega)
        have g3 : L2.atI (row.map D.int) 3 = some (.int (row.getD 3 0)) := getD_atI (i := 3) (by omega)
        have two : ∀ a c : Int, ∀ e ∈ [a, c].map D.int, datB 60 e = true := fun a c e he => by obtain ⟨x, _, rfl⟩ := List.mem_map.mp he; rfl
        exact DW.dt (dw_or (dt_cmp (de_ix (de_var h 6 rfl rfl rfl) de_int .tup g0) (de_tup (da_cC de_int (da_cC de_int da_nil))) (wo_in h .id .tup rfl (two 1 2) ⟨congrArg D.bl (anyD_ints [1, 2] _), rfl⟩)) fun _ => dw_or1 (dt_cmp (de_ix (de_var h 6 rfl rfl rfl) de_int .tup g3) (de_tup (da_cC de_int (da_cC de_int da_nil))) (wo_in h .id .tup rfl (two 3 4) ⟨congrArg D.bl (anyD_ints [3, 4] _), rfl⟩)))
      · have c' : ¬ spots.length = 4 := by have := of_decide_eq_false c; rw [List.length_map] at this; omega
        rw [if_neg c'] at q
        exact wss_one (ws_ret (DE.to (de_var h 3 rfl rfl rfl) (.now q)))
def s_law_begin : SpD := fun ds M Q => ∃ (r : List Pt) (l : Lets), ds = [roomD r, letsD l] ∧ r.Nodup ∧ r.length ≤ 1000 ∧ l.length ≤ 1000 ∧ ∀ p, Q (.ref p) ((p, .dic (leftK r (letF l))) :: M)
theorem ok__law_begin {X : Cx} (B : Bs X) : Dn X "_law_begin" 1 ["_law_ground", "_law_lets_so"] s_law_begin := by
  refine def_by B 79 64 64 (k := 0) (N := ["_law_ground", "_law_lets_so", "_law_told_so", "_law_own"]) rfl rfl ⟨rfl, rfl, rfl, by decide +kernel, rfl, by decide +kernel, by decide +kernel⟩ (fun _ _ _ _ _ _ us hl => match us, hl with | [_, _], _ => rfl) ?len ?body
  case len => rintro _ _ _ ⟨r, l, rfl, _⟩; rfl
  case body =>
    rintro X' h B _ M QD ⟨r, l, rfl, hn, hr, hl, q⟩
    refine wss_cons (ws_set h 2 rfl rfl (DE.to (d := .dic (putsN [] (letsP l))) (DO.frz (mo := .dic _) (do_callTy h rfl B.f_dict boot_dict (da_cN (de_var h 1 rfl rfl rfl) da_nil) (wc_dict h .t (letsP_ok l) (by simp [letsP]; omega) fun p => ⟨p, rfl, rfl⟩))) ?_))
    refine wss_one (ws_ret (DO.to (mo := .dic (leftK r (letF l))) (do_callTy h rfl B.f_dict boot_dict (da_cons (DO.frz (do_lcM h B r sqD (fun s => .tup [keyD (sk s), intsD (letF l s)]) [("_law_own", 3)] (tg_name h 3 rfl rfl (by simp)) rfl ⟨wi_tupE (de_var h 0 rfl rfl rfl) rfl, by omega, fun s hs => ⟨_, rfl, fun X' ⟨h, B, _⟩ m => ?_⟩⟩)) da_nil)
      (wc_dict h (.l (by rw [MO.frz, ← tab_prD (key := sk) (val := fun s => intsD (letF l s)) (l := r)]; exact .lst)) (tab_ok sk_ok) (by simp [tabN]; omega) fun p => ⟨p, rfl, by rw [tabN_puts (fun a b e => sk_inj e) hn]; rfl⟩)) fun p => .now (q p)))
    exact de_tup (da_cons (DE.as (de_var h 3 rfl rfl rfl) (sk_D s).symm) (da_cons (DO.frz (do_callTy h rfl B.f_list boot_list (da_cons (de_get h .dic (de_var h 2 rfl rfl rfl) (de_var h 3 rfl rfl rfl) (de_tup (da_cC de_int (da_cC de_int (da_cC de_int (da_cC de_int (da_cC de_int da_nil)))))) (sk_ok s) (sk_D s).symm (told_get l s)) da_nil) (wc_list .tup fun p => ⟨p, rfl, rfl⟩))) da_nil))
end DL

set_option maxHeartbeats 8000000
/-! walks: _law_rounds, _law_strikes, _law_is_spot_so, _law_behind_steps, _law_barred_right. -/
namespace DL
open PySem PySem.Spec PyProof.Rows L2 Evl

local macro_rules
  | `(tactic| walk_at "op") => `(tactic| first
    | exact wo_add ⟨rfl, rfl⟩ | exact wo_sub ⟨rfl, rfl⟩ | exact wo_lt ⟨rfl, rfl⟩ | exact wo_le ⟨rfl, rfl⟩ | exact wo_gt ⟨rfl, rfl⟩ | exact wo_ge ⟨rfl, rfl⟩
    | exact wo_eqi ⟨rfl, rfl⟩ | exact wo_nei ⟨rfl, rfl⟩ | exact wo_eqb ⟨rfl, rfl⟩ | exact wo_neb ⟨rfl, rfl⟩ | exact wo_isN ⟨rfl, rfl⟩ | exact wo_notN ⟨rfl, rfl⟩)
  | `(tactic| walk_at "sq") => `(tactic| first | exact Sq.tup | exact Sq.lst | exact Sq.tupN | exact Sq.ref _ rfl)
  | `(tactic| walk_at "at") => `(tactic| first | rfl | assumption)
  | `(tactic| walk_at "isi") => `(tactic| first | exact wc_isI (by assumption) ⟨rfl, rfl⟩ | exact wc_isB (by assumption) ⟨rfl, rfl⟩ | exact wc_isT (by assumption) ⟨rfl, rfl⟩ | exact wc_isL (by assumption) ⟨rfl, rfl⟩ | exact wc_isLT (by assumption) ⟨rfl, rfl⟩ | exact wc_isBS (by assumption) ⟨rfl, rfl⟩)
  | `(tactic| walk_at "len") => `(tactic| exact wc_len (by first | exact Sq.tup | exact Sq.lst | exact Sq.tupN | exact Sq.ref _ rfl) ⟨rfl, rfl⟩)
  | `(tactic| walk_at "tuple") => `(tactic| exact wc_tuple (by first | exact Sq.lst | exact Sq.tup | exact Sq.tupN | exact Sq.ref _ rfl) ⟨rfl, rfl⟩)
  | `(tactic| walk_at "all") => `(tactic| exact wc_all (by assumption) (by first | exact SqO.lst | exact SqO.ref _ rfl) ⟨rfl, rfl⟩)

local macro_rules
  | `(tactic| walk_at "is_number") => `(tactic| exact ⟨_, rfl, by assumption, rfl, rfl⟩)
  | `(tactic| walk_at "tupled") => `(tactic| exact ⟨_, rfl, by assumption, rfl, rfl⟩)

open Classical in
/-- the greatest family below L0 that holds together -/
noncomputable def grtL (r : List Pt) (L0 : Lf) : Lf := fun s => (L0 s).filter fun k => decide (∃ G, Cons r G ∧ LeF r G L0 ∧ k ∈ G s)
open Classical in
theorem grt_eq {r : List Pt} {L0 L : Lf} (g : Grt r L0 L) : ∀ s ∈ r, L s = grtL r L0 s := fun s hs => by
  obtain ⟨p, e⟩ := g.b.le s
  unfold grtL
  rw [e]
  refine List.filter_congr fun k hk => ?_
  rw [Bool.eq_iff_iff, decide_eq_true_iff]
  constructor
  · intro hp
    exact ⟨L, g.c, g.b.leF, by rw [e]; exact List.mem_filter.mpr ⟨hk, hp⟩⟩
  · rintro ⟨G, c, le, hG⟩
    have := g.b.keep G c le s hs k hG
    rw [e] at this
    exact (List.mem_filter.mp this).2
theorem leftK_congr {r : List Pt} {L L' : Lf} (h : ∀ s ∈ r, L s = L' s) : leftK r L = leftK r L' := by
  unfold leftK tabN
  exact List.map_congr_left fun s hs => by dsimp only; rw [h s hs]
theorem falls_congr {r : List Pt} {L L' : Lf} (h : ∀ s ∈ r, L s = L' s) : fallsB r L = fallsB r L' := by
  rw [Bool.eq_iff_iff, falls_iff, falls_iff]
  exact ⟨fun ⟨s, hs, e⟩ => ⟨s, hs, by rw [← h s hs]; exact e⟩, fun ⟨s, hs, e⟩ => ⟨s, hs, by rw [h s hs]; exact e⟩⟩
theorem sum_cast (L : Lf) : ∀ r : List Pt, (r.map fun s => ((L s).length : Int)).sum = (cntL r L : Int)
  | [] => by simp [cntL]
  | s :: r => by
    have ih := sum_cast L r
    unfold cntL at ih ⊢
    rw [List.map_cons, List.sum_cons, ih, List.map_cons, List.sum_cons]
    omega
theorem fitLaw_row {r spots : List Pt} {lots : List (List Int)} (h5 : ∀ l ∈ lots, l.length ≤ 5) {row : List Int} (h : row ∈ fitLaw r spots lots) : row.length = lots.length := by
  have := (fold_rows r spots lots lots.length h5).2
  rw [List.take_length] at this
  unfold fitLaw at h
  split at h
  · exact this row (List.mem_filter.mp h).1
  · exact this row h
theorem fitLaw_len {r spots : List Pt} {lots : List (List Int)} (h5 : ∀ l ∈ lots, l.length ≤ 5) (h4 : lots.length ≤ 4) : (fitLaw r spots lots).length ≤ 625 := by
  have := (fold_rows r spots lots lots.length h5).1
  rw [List.take_length] at this
  have p5 : 5 ^ lots.length ≤ 625 := Nat.le_trans (Nat.pow_le_pow_right (by decide) h4) (by decide)
  unfold fitLaw
  split
  · exact Nat.le_trans (List.length_filter_le _ _) (by omega)
  · omega
def KindsOf (L : Lf) : Prop := ∀ s, ∀ k ∈ L s, k ∈ kindsL
def s_law_rounds : SpD := fun ds M Q => ∃ (r : List Pt) (l : Lets), ds = [roomD r, letsD l] ∧ r.Nodup ∧ r.length ≤ 16 ∧ LetOk l ∧ l.length ≤ 1000 ∧ KindsOf (letF l) ∧ Q (.dic (leftK r (grtL r (letF l)))) M
theorem ok__law_rounds {X : Cx} (B : Bs X) : Dn X "_law_rounds" 4 ["_law_ground", "_law_lets_so"] s_law_rounds := by
  refine def_by B 80 65 65 (k := 3) (N := ["_law_ground", "_law_lets_so", "_law_left_so", "_law_spots_so", "_law_many_so", "_law_lap", "_law_own", "_law_spot", "_law_rows_so", "_law_k", "_law_its", "_law_row_so"]) rfl rfl ⟨rfl, rfl, rfl, by decide +kernel, rfl, by decide +kernel, by decide +kernel⟩ (fun _ _ _ _ _ _ us hl => match us, hl with | [_, _], _ => rfl) ?len ?body
  case len => rintro _ _ _ ⟨_, _, rfl, _⟩; rfl
  case body =>
    rintro X' h B _ M QD ⟨r, l, rfl, nd, hr, lo, hll, hkl, q⟩
    have h5 : ∀ s, (letF l s).length ≤ 5 := fun s => (letF_ok lo s).2
    refine wss_cons (ws_asg (we_tup (wa_cons (we_call h (ok__law_begin B) rfl (DA.to (da_cN (de_var h 0 rfl rfl rfl) (da_cN (de_var h 1 rfl rfl rfl) da_nil)) ⟨r, l, rfl, nd, by omega, hll, fun pl => wa_cons (DE.to (de_call h (ok__law_pairs_at B) rfl (da_cN (de_var h 0 rfl rfl rfl) da_nil) ⟨r, rfl, by omega, rfl, rfl⟩) (wa_cons (DE.to (de_neg de_int) (wa_nil ⟨by simp, wg_tup h (wgs_cons h 2 rfl rfl (wgs_cons h 3 rfl rfl (wgs_cons h 4 rfl rfl (wgs_nil ?_)))) rfl⟩))))⟩)))) (hw := h.sw0 fun E e => by cases E; cases e; rfl))
    have fin : ∀ (L : Lf) (pl : Addr) (ρ' : EnvD) (e : Expr), Grt r (letF l) L → DE X' e ρ' ((pl, .dic (leftK r L)) :: M) (.ref pl) ((pl, .dic (leftK r L)) :: M) → WE X' e ρ' ((pl, .dic (leftK r L)) :: M) (Rtn QD) := fun L pl ρ' e g he => he.to ⟨_, _, [(pl, _)], rfl, .ref (List.mem_singleton.mpr rfl), by
      have := leftK_congr (grt_eq g)
      show QD (.dic (leftK r L)) M
      rw [this]
      exact q⟩
    refine wss_cons (ws_forT h (List.range (5 * r.length + 1)) (fun i => .int (i : Int)) (fun i ρ' M' => ∃ L m o5 o6 o7 o8 o9, ρ' = [some (roomD r), some (letsD l), some (.ref pl), some (.lst ((atL r).map spotD)), some (.int m), o5, o6, o7, o8, o9, none, none] ∧ M' = (pl, .dic (leftK r L)) :: M ∧ Lap r (letF l) L i m)
      (WI.imp (fi_rng h (I := fun i ρ' M' => True) rfl B.f_range (DE.as (d' := .int ((5 * r.length + 1 : Nat) : Int)) (de_bin (de_bin de_int (de_callB h rfl B.f_len boot_len (da_cN (de_var h 0 rfl rfl rfl) da_nil) (by walk_at "len")) (wo_mul (.of_left (by decide)) ⟨rfl, rfl⟩)) de_int (wo_add ⟨rfl, rfl⟩)) (castS (by rw [List.length_map]; omega))) (by omega) (by omega)) fun a c d ⟨e1, e2, e3⟩ => ⟨by rw [e1, Int.toNat_natCast], e2, fun i ρ' M' _ => e3 i ρ' M' trivial⟩) ⟨_, -1, none, none, none, none, none, rfl, rfl, bse0 r _, .inl ⟨rfl, rfl⟩⟩ ?_ ?_)
    · rintro i lap ρ' M' hx ⟨L, m, o5, o6, o7, o8, o9, rfl, rfl, lp⟩
      have n5 := lp.b.n5 h5
      refine wg_name h 5 rfl rfl ?_
      refine wss_cons (ws_if (DT.to (d := decide (m = (cntL r L : Int))) (dt_cmp (de_var h 4 rfl rfl rfl) (de_callB h rfl B.f_sum boot_sum (da_cons (DO.frz (do_lcM h B r sqD (fun s => .int ((L s).length : Int)) [("_law_own", 6)] (tg_name h 6 rfl rfl (by simp)) rfl ⟨wi_tupE (de_var h 0 rfl rfl rfl) rfl, by omega, fun s hs => ⟨_, rfl, fun X' ⟨h, B, _⟩ m => DE.as (de_callB h rfl B.f_len boot_len (da_cons (de_at h (.ref 1 rfl) (de_var h 2 rfl rfl rfl) (de_var h 6 rfl rfl rfl) (sk_ok s) (sk_D s).symm (left_at hs)) da_nil) (wc_len .lst ⟨rfl, rfl⟩)) (by rw [List.length_map])⟩⟩)) da_nil) (wc_sum h (ns := r.map fun s => ((L s).length : Int)) (by show SqO _ (D.lst _) _; rw [List.map_map]; exact .lst) ⟨by rw [sum_cast], rfl⟩)) (wo_eqi ⟨rfl, rfl⟩)) ⟨fun c => wss_one (ws_ret (fin L pl _ _ (lp.stop (of_decide_eq_true c)) (de_var h 2 rfl rfl rfl))), fun c => wss_nil ?_⟩))
      refine wss_cons (ws_set h 4 rfl rfl (DE.to (d := .int (cntL r L : Int)) (de_callB h rfl B.f_sum boot_sum (da_cons (DO.frz (do_lcM h B r sqD (fun s => .int ((L s).length : Int)) [("_law_own", 6)] (tg_name h 6 rfl rfl (by simp)) rfl ⟨wi_tupE (de_var h 0 rfl rfl rfl) rfl, by omega, fun s hs => ⟨_, rfl, fun X' ⟨h, B, _⟩ m => DE.as (de_callB h rfl B.f_len boot_len (da_cons (de_at h (.ref 1 rfl) (de_var h 2 rfl rfl rfl) (de_var h 6 rfl rfl rfl) (sk_ok s) (sk_D s).symm (left_at hs)) da_nil) (wc_len .lst ⟨rfl, rfl⟩)) (by rw [List.length_map])⟩⟩)) da_nil) (wc_sum h (ns := r.map fun s => ((L s).length : Int)) (by show SqO _ (D.lst _) _; rw [List.map_map]; exact .lst) ⟨by rw [sum_cast], rfl⟩)) ?_))
      refine wss_one (ws_forT h (atL r) spotD (fun t ρ' M' => ∃ L2 o6 o7 o8 o9, ρ' = [some (roomD r), some (letsD l), some (.ref pl), some (.lst ((atL r).map spotD)), some (.int (cntL r L : Int)), some (.int (lap : Int)), o6, o7, o8, o9, none, none] ∧ M' = (pl, .dic (leftK r L2)) :: M ∧ Bse r (letF l) L2 ∧ Pas r L L2 ((atL r).take t))
        (fi_lst (de_var h 3 rfl rfl rfl) rfl) ⟨L, o6, o7, o8, o9, rfl, rfl, lp.b, pas0 r L⟩ ?_ ?_)
      · rintro t spot ρ' M' ht ⟨L2, o6, o7, o8, o9, rfl, rfl, b2, p2⟩
        have hsp := mem_at.mp (List.mem_of_getElem? ht)
        obtain ⟨hsl, hin⟩ := spots_in_room r spot hsp
        have hs4 : spot.length ≤ 4 := by rcases hsl with e | e | e <;> omega
        have n52 := b2.n5 h5
        have k2 := b2.k hkl
        have lots5 : ∀ l' ∈ spot.map L2, l'.length ≤ 5 := fun l' hl' => by obtain ⟨s, _, rfl⟩ := List.mem_map.mp hl'; exact n52 s
        have rl := fitLaw_len (r := r) (spots := spot) lots5 (by rw [List.length_map]; exact hs4)
        refine wg_name h 7 rfl rfl ?_
        refine wss_cons (ws_set h 8 rfl rfl (DE.to (de_call h (ok__law_fitting B) rfl (da_cons (de_var h 0 rfl rfl rfl) (da_cons (DE.as (d' := .lst ((spot.map L2).map intsD)) (DO.frz (do_lcM h B spot sqD (fun s => intsD (L2 s)) [("_law_own", 6)] (tg_name h 6 rfl rfl (by simp)) rfl ⟨wi_tupE (de_var h 7 rfl rfl rfl) rfl, by omega, fun s hs => ⟨_, rfl, fun X' ⟨h, B, _⟩ m => de_at h (.ref 1 rfl) (de_var h 2 rfl rfl rfl) (de_var h 6 rfl rfl rfl) (sk_ok s) (sk_D s).symm (left_at (hin s hs))⟩⟩)) (by rw [List.map_map]; rfl)) (da_cons (de_var h 7 rfl rfl rfl) da_nil)))
          ⟨r, spot, spot.map L2, rfl, by omega, by rw [List.length_map], hs4, fun l' hl' => ⟨lots5 l' hl', by obtain ⟨s, _, rfl⟩ := List.mem_map.mp hl'; exact k2 s⟩, rfl, rfl⟩) ?_))
        have rrow : ∀ row ∈ fitLaw r spot (spot.map L2), row.length = spot.length := fun row hr => by rw [fitLaw_row lots5 hr, List.length_map]
        refine wss_one (ws_forT h spot.zipIdx (enP sqD) (fun j ρ' M' => ∃ L3 o6 o9, ρ' = [some (roomD r), some (letsD l), some (.ref pl), some (.lst ((atL r).map spotD)), some (.int (cntL r L : Int)), some (.int (lap : Int)), o6, some (spotD spot), some (.lst ((fitLaw r spot (spot.map L2)).map intsT)), o9, none, none] ∧ M' = (pl, .dic (leftK r L3)) :: M ∧ Prc r L2 spot (fitLaw r spot (spot.map L2)) j L3)
          (fi_en h (xs := spot.map sqD) rfl B.f_enumerate (de_var h 7 rfl rfl rfl) (fun _ => .tup) rfl) ⟨L2, o6, o9, rfl, rfl, prc0 _ _ _ _⟩ ?_ ?_)
        · rintro j ⟨s, j'⟩ ρ' M' hj ⟨L3, o6, o9, rfl, rfl, pc⟩
          obtain ⟨hj1, rfl⟩ := zipIdx_get hj
          have hjl : j' < spot.length := (List.getElem?_eq_some_iff.mp hj1).1
          have hsr : s ∈ r := hin s (List.mem_of_getElem? hj1)
          have l35 : (L3 s).length ≤ 5 := by
            obtain ⟨p, e⟩ := pc.le s
            rw [e]
            exact filter_len _ _ _ (n52 s)
          refine wg_tup h (wgs_cons h 9 rfl rfl (wgs_cons h 6 rfl rfl (wgs_nil ?_))) rfl
          refine wss_one (ws_asg (DE.to (DO.frz (do_lcA h B (L3 s) .int (inCol (fitLaw r spot (spot.map L2)) j') .int [("_law_its", 10)] (tg_name h 10 rfl rfl (by simp)) rfl ⟨wi_lstE (de_at h (.ref 0 rfl) (de_var h 2 rfl rfl rfl) (de_var h 6 rfl rfl rfl) (sk_ok s) (sk_D s).symm (left_at hsr)) rfl, by omega, fun x hx => ⟨_, rfl, fun X' ⟨h, B, _⟩ m => ?t1, fun _ X' ⟨h, B, _⟩ m => (de_var h 10 rfl rfl rfl)⟩⟩)) (wg_sub (DE.to (de_var h 2 rfl rfl rfl) (DE.to (de_var h 6 rfl rfl rfl) (wst_dic h 0 rfl (sk_ok s) (sk_D s).symm (by simp [leftK, tabN]; omega) ⟨updL L3 s ((L3 s).filter (inCol (fitLaw r spot (spot.map L2)) j')), _, _, rfl, ?t2, pc.next (spots_nodup r spot hsp) hj1⟩))))))
          case t2 =>
            have := left_put (r := r) (L := L3) (ks := (L3 s).filter (inCol (fitLaw r spot (spot.map L2)) j')) hsr
            show (pl, MO.dic (putN _ _ (intsD _))) :: M = _
            rw [this]
          case t1 =>
            exact dt_cmp (de_var h 10 rfl rfl rfl) (DE.as (d' := intsD ((fitLaw r spot (spot.map L2)).map fun row => row.getD j' 0)) (DO.frz (do_lcM h B (fitLaw r spot (spot.map L2)) intsT (fun row => .int (row.getD j' 0)) [("_law_row_so", 11)] (tg_name h 11 rfl rfl (by simp)) rfl ⟨wi_lstE (de_var h 8 rfl rfl rfl) rfl, by omega, fun row hrow => ⟨_, rfl, fun X' ⟨h, B, _⟩ m => de_ix (de_var h 11 rfl rfl rfl) (de_var h 9 rfl rfl rfl) .tup (getD_atI (by rw [rrow row hrow]; exact hjl))⟩⟩)) (by show D.lst _ = D.lst _; rw [List.map_map]; rfl)) (wo_in h .id .lst rfl (fun e he => by obtain ⟨x, _, rfl⟩ := List.mem_map.mp he; rfl) ⟨congrArg D.bl (anyD_ints _ x), rfl⟩)
        · rintro ρ' M' ⟨L3, o6, o9, rfl, rfl, pc⟩
          rw [List.length_zipIdx] at pc
          obtain ⟨b3, sp3⟩ := pc.spt hkl b2 hsp
          refine ⟨L3, _, _, _, _, rfl, rfl, b3, ?_⟩
          have := p2.step hsp sp3
          rw [List.take_succ, ht]
          exact this
      · rintro ρ' M' ⟨L2, o6, o7, o8, o9, rfl, rfl, b2, p2⟩
        rw [List.take_length] at p2
        exact ⟨L2, _, _, _, _, _, _, rfl, rfl, lp.go h5 (of_decide_eq_false c) b2 p2⟩
    · rintro ρ' M' ⟨L, m, o5, o6, o7, o8, o9, rfl, rfl, lp⟩
      rw [List.length_range] at lp
      exact wss_one (ws_ret (fin L pl _ _ lp.fin (de_var h 2 rfl rfl rfl)))
end DL

set_option maxHeartbeats 8000000
/-! walks: _law_strikes, _law_is_spot_so, _law_behind_steps, _law_barred_right. -/
namespace DL
open PySem PySem.Spec PyProof.Rows L2 Evl

local macro_rules
  | `(tactic| walk_at "op") => `(tactic| first
    | exact wo_add ⟨rfl, rfl⟩ | exact wo_sub ⟨rfl, rfl⟩ | exact wo_lt ⟨rfl, rfl⟩ | exact wo_le ⟨rfl, rfl⟩ | exact wo_gt ⟨rfl, rfl⟩ | exact wo_ge ⟨rfl, rfl⟩
    | exact wo_eqi ⟨rfl, rfl⟩ | exact wo_nei ⟨rfl, rfl⟩ | exact wo_eqb ⟨rfl, rfl⟩ | exact wo_neb ⟨rfl, rfl⟩ | exact wo_isN ⟨rfl, rfl⟩ | exact wo_notN ⟨rfl, rfl⟩)
  | `(tactic| walk_at "sq") => `(tactic| first | exact Sq.tup | exact Sq.lst | exact Sq.tupN | exact Sq.ref _ rfl)
  | `(tactic| walk_at "at") => `(tactic| first | rfl | assumption)
  | `(tactic| walk_at "isi") => `(tactic| first | exact wc_isI (by assumption) ⟨rfl, rfl⟩ | exact wc_isB (by assumption) ⟨rfl, rfl⟩ | exact wc_isT (by assumption) ⟨rfl, rfl⟩ | exact wc_isL (by assumption) ⟨rfl, rfl⟩ | exact wc_isLT (by assumption) ⟨rfl, rfl⟩ | exact wc_isBS (by assumption) ⟨rfl, rfl⟩)
  | `(tactic| walk_at "len") => `(tactic| exact wc_len (by first | exact Sq.tup | exact Sq.lst | exact Sq.tupN | exact Sq.ref _ rfl) ⟨rfl, rfl⟩)
  | `(tactic| walk_at "tuple") => `(tactic| exact wc_tuple (by first | exact Sq.lst | exact Sq.tup | exact Sq.tupN | exact Sq.ref _ rfl) ⟨rfl, rfl⟩)
  | `(tactic| walk_at "all") => `(tactic| exact wc_all (by assumption) (by first | exact SqO.lst | exact SqO.ref _ rfl) ⟨rfl, rfl⟩)

local macro_rules
  | `(tactic| walk_at "is_number") => `(tactic| exact ⟨_, rfl, by assumption, rfl, rfl⟩)
  | `(tactic| walk_at "tupled") => `(tactic| exact ⟨_, rfl, by assumption, rfl, rfl⟩)

theorem eqvAll_refl : ∀ (l : List Pt), PyData.eqvAll (toPys (l.map sqD)) (toPys (l.map sqD)) = true
  | [] => by simp [toPys, PyData.eqvAll]
  | p :: l => by
    have e := eqD_sq p p
    unfold eqD at e
    simp only [List.map_cons, toPys, PyData.eqvAll, eqvAll_refl l, Bool.and_true]
    rw [e]
    simp
theorem eqD_spot_refl (a : List Pt) : eqD (spotD a) (spotD a) = true := by
  unfold eqD
  simp only [spotD, toPy, PyData.eqv]
  exact eqvAll_refl a
theorem anyD_mem {ds : List D} {d : D} (h : d ∈ ds) (e : eqD d d = true) : anyD ds d = true := by
  unfold anyD
  rw [List.any_eq_true]
  exact ⟨d, h, e⟩
structure StOk (r : List Pt) (L : Lf) : Prop where
  n5 : ∀ s, (L s).length ≤ 5
  k : KindsOf L
theorem struck1_ok {r : List Pt} {L : Lf} (h : StOk r L) (st : Stp) : StOk r (struck1 L st) := by
  refine ⟨fun s => ?_, fun s k hk => ?_⟩
  · unfold struck1 updL
    split
    · exact filter_len _ _ _ (h.n5 _)
    · exact h.n5 s
  · unfold struck1 updL at hk
    split at hk
    · exact h.k _ k (List.mem_filter.mp hk).1
    · exact h.k s k hk
def s_law_strikes : SpD := fun ds M Q => ∃ (r : List Pt) (dl : D) (L : Lf) (st : Stp), ds = [roomD r, dl, stepD st] ∧ r.length ≤ 16 ∧ LfD M r L dl ∧ StOk r L ∧ Good r L st ∧ Q (.bl true) M
theorem ok__law_strikes {X : Cx} (B : Bs X) : Dn X "_law_strikes" 4 ["_law_ground", "_law_left_so", "_law_step_so"] s_law_strikes := by
  refine def_by B 81 66 66 (k := 3) (N := ["_law_ground", "_law_left_so", "_law_step_so", "_law_spot", "_law_kind_so", "_law_spots_so", "_law_own"]) rfl rfl ⟨rfl, rfl, rfl, by decide +kernel, rfl, by decide +kernel, by decide +kernel⟩ (fun _ _ _ _ _ _ us hl => match us, hl with | [_, _, _], _ => rfl) ?len ?body
  case len => rintro _ _ _ ⟨_, _, _, _, rfl, _⟩; rfl
  case body =>
    rintro X' h B _ M QD ⟨r, dl, L, ⟨s, k, spot⟩, rfl, hr, hd, ok, g, q⟩
    have g' := g
    obtain ⟨h1, i, h2, h3, h4⟩ := g'
    have hs : s ∈ spot := List.mem_of_getElem? h2
    obtain ⟨hsl, hin⟩ := spots_in_room r spot h1
    have hs4 : spot.length ≤ 4 := by rcases hsl with e | e | e <;> omega
    have al := atL_len r
    have t1 : anyD ((atL r).map spotD) (spotD spot) = true := anyD_mem (List.mem_map_of_mem (mem_at.mpr h1)) (eqD_spot_refl spot)
    have t2 : anyD (spot.map sqD) (sqD s) = true := by rw [anyD_sq]; exact decide_eq_true hs
    have t3 : anyD ((L s).map .int) (.int k) = true := by rw [anyD_ints]; exact decide_eq_true h3
    refine wss_cons (ws_asg (DE.to (de_var h 2 rfl rfl rfl) (wg_tup h (wgs_cons h 3 rfl rfl (wgs_cons h 4 rfl rfl (wgs_cons h 5 rfl rfl (wgs_nil ?_)))) rfl)))
    refine wss_cons (ws_if (DT.to (d := false) (DT.as (DW.dt (dw_or (dt_cmp (de_var h 5 rfl rfl rfl) (de_call h (ok__law_pairs_at B) rfl (da_cN (de_var h 0 rfl rfl rfl) da_nil) ⟨r, rfl, by omega, rfl, rfl⟩) (wo_nin h .id .lst (datB_spot 58 spot) (fun e he => by obtain ⟨x, _, rfl⟩ := List.mem_map.mp he; exact datB_spot 58 x) ⟨rfl, rfl⟩)) fun _ => dw_or (dt_cmp (de_var h 3 rfl rfl rfl) (de_var h 5 rfl rfl rfl) (wo_nin h .id .tup (datB_sq 59 s) (datB_sqs 59 spot) ⟨rfl, rfl⟩)) fun _ => dw_or1 (dt_cmp (de_var h 4 rfl rfl rfl) (de_at h hd.dc (de_var h 1 rfl rfl rfl) (de_var h 3 rfl rfl rfl) (sk_ok s) (sk_D s).symm (left_at (hin s hs))) (wo_nin h .id .lst rfl (fun e he => by obtain ⟨x, _, rfl⟩ := List.mem_map.mp he; rfl) ⟨rfl, rfl⟩)))) (by rw [t1, t2, t3]; rfl)) ⟨fun c => (nomatch c), fun _ => wss_nil ?_⟩))
    have ok2 : StOk r (updL L s [k]) := ⟨fun x => by unfold updL; split; simp; exact ok.n5 x, fun x y hy => by
      unfold updL at hy
      split at hy
      · rw [List.mem_singleton.mp hy]; exact ok.k s k h3
      · exact ok.k x y hy⟩
    have en := fitLaw_nil (st := (s, k, spot)) (fun x _ => ok.k x) g
    simp only at en
    refine wss_one (ws_ret (DE.to (d := .bl true) (DE.as (de_cmp (de_call h (ok__law_fitting B) rfl (da_cons (de_var h 0 rfl rfl rfl) (da_cons (DE.as (d' := .lst ((spot.map (updL L s [k])).map intsD)) (DO.frz (do_lcM h B spot sqD (fun x => intsD (updL L s [k] x)) [("_law_own", 6)] (tg_name h 6 rfl rfl (by simp)) rfl ⟨wi_tupE (de_var h 5 rfl rfl rfl) rfl, by omega, fun x hx => ⟨_, rfl, fun X' ⟨h, B, _⟩ m => ?el⟩⟩)) (by rw [List.map_map]; rfl)) (da_cons (de_var h 5 rfl rfl rfl) da_nil)))
      ⟨r, spot, spot.map (updL L s [k]), rfl, by omega, by rw [List.length_map], hs4, fun l' hl' => by obtain ⟨x, _, rfl⟩ := List.mem_map.mp hl'; exact ⟨ok2.n5 x, ok2.k x⟩, rfl, rfl⟩) (do_lst da_nil).frz (wo_eqD h .id .id (by rw [en]; rfl) rfl ⟨rfl, rfl⟩)) (by rw [en]; rfl)) (.now q)))
    case el =>
      refine we_ifE (DT.to (dt_cmp (de_var h 6 rfl rfl rfl) (de_var h 3 rfl rfl rfl) (wo_eqD h .id .id (datB_sq 59 x) (datB_sq 59 s) ⟨congrArg D.bl (eqD_sq x s), rfl⟩)) ⟨fun c => ?_, fun c => ?_⟩)
      · have e : x = s := of_decide_eq_true c
        exact DE.as (d := intsD [k]) (do_lst (da_cN (de_var h 4 rfl rfl rfl) da_nil)).frz (by show _ = intsD (if x = s then [k] else L x); rw [if_pos e])
      · have e : ¬ x = s := of_decide_eq_false c
        exact DE.as (d := intsD (L x)) (de_at h hd.cons.dc (de_var h 1 rfl rfl rfl) (de_var h 6 rfl rfl rfl) (sk_ok x) (sk_D x).symm (left_at (hin x hx))) (by show _ = intsD (if x = s then [k] else L x); rw [if_neg e])

def s_law_is_spot : SpD := fun ds M Q => ∃ (p : Pt), ds = [sqD p] ∧ Q (.bl true) M
theorem ok__law_is_spot_so {X : Cx} (B : Bs X) : Dn X "_law_is_spot_so" 1 ["_law_matter"] s_law_is_spot := by
  refine def_by B 82 67 67 (k := 0) (N := ["_law_matter", "_law_own"]) rfl rfl ⟨rfl, rfl, rfl, by decide +kernel, rfl, by decide +kernel, by decide +kernel⟩ (fun _ _ _ _ _ _ us hl => match us, hl with | [_], _ => rfl) ?len ?body
  case len => rintro _ _ _ ⟨_, rfl, _⟩; rfl
  case body =>
    rintro X' h B _ M QD ⟨p, rfl, q⟩
    have ht : hasT (sqD p) = true := rfl
    refine wss_cons (ws_if (DT.to (d := false) (DT.as (dw_or (dt_not (dt_val (de_callB h rfl B.f_isinstance boot_isinstance (da_cN (de_var h 0 rfl rfl rfl) (da_cN (de_ty h rfl B.f_tuple boot_tuple) da_nil)) (by walk_at "isi")))) fun c1 => (dw_or1 (dt_cmp (de_callB h rfl B.f_len boot_len (da_cN (de_var h 0 rfl rfl rfl) da_nil) (by walk_at "len")) de_int (by walk_at "op")))).dt rfl) ⟨fun c => (nomatch c), fun _ => wss_nil ?_⟩))
    refine wss_one (ws_ret (DE.to (d := .bl true) (DE.as (de_cmp (DO.frz (do_lcA h B [p.1, p.2] .int (fun _ => false) .int [("_law_own", 1)] (tg_name h 1 rfl rfl (by simp)) rfl ⟨wi_tupE (de_var h 0 rfl rfl rfl) rfl, by simp, fun x hx => ⟨_, rfl, fun X' ⟨h, B, _⟩ m => ?t, fun _ X' ⟨h, B, _⟩ m => (de_var h 1 rfl rfl rfl)⟩⟩)) (do_lst da_nil).frz (wo_eqD h .id .id rfl rfl ⟨rfl, rfl⟩)) (by simp [MO.frz, eqD_nil])) (.now q)))
    have ht2 : hasT (D.int x) = true := rfl
    exact DT.as (dw_or (dt_not (dt_val (de_callB h rfl B.f_isinstance boot_isinstance (da_cN (de_var h 1 rfl rfl rfl) (da_cN (de_ty h rfl B.f_int boot_int) da_nil)) (by walk_at "isi")))) fun c2 => (dw_or1 (dt_val (de_callB h rfl B.f_isinstance boot_isinstance (da_cN (de_var h 1 rfl rfl rfl) (da_cN (de_ty h rfl B.f_bool boot_bool) da_nil)) (by walk_at "isi"))))).dt rfl
def s_law_behind : SpD := fun ds M Q => ∃ (r : List Pt) (l : Lets) (fd : List Stp) (L : Lf), ds = [roomD r, letsD l, .tup (fd.map stepD)] ∧ r.Nodup ∧ r.length ≤ 16 ∧ LetOk l ∧ l.length ≤ 1000 ∧ KindsOf (letF l) ∧ Rep r (letF l) fd L ∧ Q (.dic (leftK r L)) M
theorem ok__law_behind_steps {X : Cx} (B : Bs X) : Dn X "_law_behind_steps" 5 ["_law_ground", "_law_lets_so", "_law_matter"] s_law_behind := by
  refine def_by B 83 68 68 (k := 4) (N := ["_law_ground", "_law_lets_so", "_law_matter", "_law_left_so", "_law_own", "_law_its"]) rfl rfl ⟨rfl, rfl, rfl, by decide +kernel, rfl, by decide +kernel, by decide +kernel⟩ (fun _ _ _ _ _ _ us hl => match us, hl with | [_, _, _], _ => rfl) ?len ?body
  case len => rintro _ _ _ ⟨_, _, _, _, rfl, _⟩; rfl
  case body =>
    rintro X' h B _ M QD ⟨r, l, fd, L, rfl, nd, hr, lo, hll, hkl, rep, q⟩
    have ht : hasT (.tup (fd.map stepD)) = true := rfl
    refine wss_cons (ws_if (DT.to (d := false) (DT.as (dt_not (dt_val (de_callB h rfl B.f_isinstance boot_isinstance (da_cN (de_var h 2 rfl rfl rfl) (da_cN (de_ty h rfl B.f_tuple boot_tuple) da_nil)) (by walk_at "isi")))) rfl) ⟨fun c => (nomatch c), fun _ => wss_nil ?_⟩))
    refine wss_cons (ws_set h 3 rfl rfl (we_call h (ok__law_begin B) rfl (DA.to (da_cN (de_var h 0 rfl rfl rfl) (da_cN (de_var h 1 rfl rfl rfl) da_nil)) ⟨r, l, rfl, nd, by omega, hll, fun pl => ?_⟩)))
    refine wss_cons (ws_forT h fd stepD (fun i ρ' M' => ∃ L' o4, ρ' = [some (roomD r), some (letsD l), some (.tup (fd.map stepD)), some (.ref pl), o4, none] ∧ M' = (pl, .dic (leftK r L')) :: M ∧ Rep r L' (fd.drop i) L ∧ StOk r L')
      (fi_tup (de_var h 2 rfl rfl rfl) rfl) ⟨letF l, none, rfl, rfl, by rw [List.drop_zero]; exact rep, fun s => (letF_ok lo s).2, hkl⟩ ?_ ?_)
    · rintro i st ρ' M' hx ⟨L', o4, rfl, rfl, rep', ok⟩
      have hil := (List.getElem?_eq_some_iff.mp hx).1
      have ed : fd.drop i = st :: fd.drop (i + 1) := by
        rw [List.drop_eq_getElem_cons hil, (List.getElem?_eq_some_iff.mp hx).2]
      rw [ed] at rep'
      obtain ⟨g, rep2⟩ := rep'.uncons
      have ok2 := struck1_ok ok st
      have hsp := g.1
      have hin := (spots_in_room r _ hsp).2
      have hsl : st.2.2.length ≤ 4 := by rcases (spots_in_room r _ hsp).1 with e | e | e <;> omega
      have hs : st.1 ∈ r := by obtain ⟨_, j, h2, _⟩ := g; exact hin _ (List.mem_of_getElem? h2)
      have n5 := ok.n5 st.1
      refine wg_name h 4 rfl rfl ?_
      have h0 : hasT (stepD st) = true := rfl
      have a0 : L2.atI [sqD st.1, D.int st.2.1, spotD st.2.2] 0 = some (sqD st.1) := rfl
      refine wss_cons (ws_if (DT.to (d := false) (DT.as (DW.dt (dw_or (dt_not (dt_val (de_callB h rfl B.f_isinstance boot_isinstance (da_cN (de_var h 4 rfl rfl rfl) (da_cN (de_ty h rfl B.f_tuple boot_tuple) da_nil)) (by walk_at "isi")))) fun _ => dw_or (dt_cmp (de_callB h rfl B.f_len boot_len (da_cN (de_var h 4 rfl rfl rfl) da_nil) (by walk_at "len")) de_int (by walk_at "op")) fun _ => dw_or1 (dt_not (dt_val (de_call h (ok__law_is_spot_so B) rfl (da_cons (de_ix (de_var h 4 rfl rfl rfl) de_int .tup a0) da_nil) ⟨st.1, rfl, rfl, rfl⟩))))) rfl) ⟨fun c => (nomatch c), fun _ => wss_nil ?_⟩))
      have a1 : L2.atI [sqD st.1, D.int st.2.1, spotD st.2.2] 1 = some (.int st.2.1) := rfl
      have a2 : L2.atI [sqD st.1, D.int st.2.1, spotD st.2.2] 2 = some (spotD st.2.2) := rfl
      have h1 : hasT (D.int st.2.1) = true := rfl
      have h2 : hasT (spotD st.2.2) = true := rfl
      refine wss_cons (ws_if (DT.to (d := false) (DT.as (DW.dt (dw_or (dt_not (dt_val (de_callB h rfl B.f_isinstance boot_isinstance (da_cons (de_ix (de_var h 4 rfl rfl rfl) de_int .tup a1) (da_cons (de_ty h rfl B.f_int boot_int) da_nil)) (wc_isI h1 ⟨rfl, rfl⟩)))) fun _ => dw_or (dt_val (de_callB h rfl B.f_isinstance boot_isinstance (da_cons (de_ix (de_var h 4 rfl rfl rfl) de_int .tup a1) (da_cons (de_ty h rfl B.f_bool boot_bool) da_nil)) (wc_isB h1 ⟨rfl, rfl⟩))) fun _ => dw_or1 (dt_not (dt_val (de_callB h rfl B.f_isinstance boot_isinstance (da_cons (de_ix (de_var h 4 rfl rfl rfl) de_int .tup a2) (da_cons (de_ty h rfl B.f_tuple boot_tuple) da_nil)) (wc_isT h2 ⟨rfl, rfl⟩)))))) rfl) ⟨fun c => (nomatch c), fun _ => wss_nil ?_⟩))
      refine wss_cons (ws_if (DT.to (d := false) (DT.as (DW.dt (dw_or (dt_cmp (DO.frz (do_lcA h B st.2.2 sqD (fun _ => false) sqD [("_law_its", 5)] (tg_name h 5 rfl rfl (by simp)) rfl ⟨wi_tupE (de_ix (de_var h 4 rfl rfl rfl) de_int .tup a2) rfl, by omega, fun x hx => ⟨_, rfl, fun X' ⟨h, B, _⟩ m => dt_not (dt_val (de_call h (ok__law_is_spot_so B) rfl (da_cN (de_var h 5 rfl rfl rfl) da_nil) ⟨x, rfl, rfl, rfl⟩)), fun _ X' ⟨h, B, _⟩ m => (de_var h 5 rfl rfl rfl)⟩⟩)) (do_lst da_nil).frz (wo_neD h .id .id (datB_pts 58 _) rfl ⟨rfl, rfl⟩)) fun _ => dw_or1 (dt_not (dt_val (de_call h (ok__law_strikes B) rfl (da_cN (de_var h 0 rfl rfl rfl) (da_cN (de_var h 3 rfl rfl rfl) (da_cN (de_var h 4 rfl rfl rfl) da_nil))) ⟨r, _, L', st, rfl, hr, .ref 0 rfl, ok, g, rfl, rfl⟩))))) (by simp [MO.frz, eqD_nil])) ⟨fun c => (nomatch c), fun _ => wss_nil ?_⟩))
      refine wss_one (ws_asg (DE.to (DO.frz (do_lcA h B (L' st.1) .int (fun k => decide (k ≠ st.2.1)) .int [("_law_its", 5)] (tg_name h 5 rfl rfl (by simp)) rfl ⟨wi_lstE (de_at h (.ref 0 rfl) (de_var h 3 rfl rfl rfl) (de_ix (de_var h 4 rfl rfl rfl) de_int .tup a0) (sk_ok st.1) (sk_D st.1).symm (left_at hs)) rfl, by omega, fun x hx => ⟨_, rfl, fun X' ⟨h, B, _⟩ m => ?t1, fun _ X' ⟨h, B, _⟩ m => (de_var h 5 rfl rfl rfl)⟩⟩)) (wg_sub (DE.to (de_var h 3 rfl rfl rfl) (DE.to (de_ix (de_var h 4 rfl rfl rfl) de_int .tup a0) (wst_dic h 0 rfl (sk_ok st.1) (sk_D st.1).symm (by simp [leftK, tabN]; omega) ⟨struck1 L' st, _, rfl, ?t2, rep2, ok2⟩))))))
      case t1 => exact dt_cmp (de_var h 5 rfl rfl rfl) (de_ix (de_var h 4 rfl rfl rfl) de_int .tup a1) (wo_nei ⟨by simp, rfl⟩)
      case t2 =>
        have := left_put (r := r) (L := L') (ks := (L' st.1).filter fun k => decide (k ≠ st.2.1)) hs
        show (pl, MO.dic (putN _ _ (intsD _))) :: M = _
        rw [this]
        rfl
    · rintro ρ' M' ⟨L', o4, rfl, rfl, rep', ok⟩
      rw [List.drop_length] at rep'
      have e := rep'.nil_eq
      subst e
      exact wss_one (ws_ret (DE.to (de_var h 3 rfl rfl rfl) ⟨_, _, [(pl, _)], rfl, .ref (List.mem_singleton.mpr rfl), q⟩))
end DL

set_option maxHeartbeats 8000000
/-! walks: _law_heard. -/
namespace DL
open PySem PySem.Spec PyProof.Rows L2 Evl

local macro_rules
  | `(tactic| walk_at "op") => `(tactic| first
    | exact wo_add ⟨rfl, rfl⟩ | exact wo_sub ⟨rfl, rfl⟩ | exact wo_lt ⟨rfl, rfl⟩ | exact wo_le ⟨rfl, rfl⟩ | exact wo_gt ⟨rfl, rfl⟩ | exact wo_ge ⟨rfl, rfl⟩
    | exact wo_eqi ⟨rfl, rfl⟩ | exact wo_nei ⟨rfl, rfl⟩ | exact wo_eqb ⟨rfl, rfl⟩ | exact wo_neb ⟨rfl, rfl⟩ | exact wo_isN ⟨rfl, rfl⟩ | exact wo_notN ⟨rfl, rfl⟩)
  | `(tactic| walk_at "sq") => `(tactic| first | exact Sq.tup | exact Sq.lst | exact Sq.tupN | exact Sq.ref _ rfl)
  | `(tactic| walk_at "at") => `(tactic| first | rfl | assumption)
  | `(tactic| walk_at "isi") => `(tactic| first | exact wc_isI (by assumption) ⟨rfl, rfl⟩ | exact wc_isB (by assumption) ⟨rfl, rfl⟩ | exact wc_isT (by assumption) ⟨rfl, rfl⟩ | exact wc_isL (by assumption) ⟨rfl, rfl⟩ | exact wc_isLT (by assumption) ⟨rfl, rfl⟩ | exact wc_isBS (by assumption) ⟨rfl, rfl⟩)
  | `(tactic| walk_at "len") => `(tactic| exact wc_len (by first | exact Sq.tup | exact Sq.lst | exact Sq.tupN | exact Sq.ref _ rfl) ⟨rfl, rfl⟩)
  | `(tactic| walk_at "tuple") => `(tactic| exact wc_tuple (by first | exact Sq.lst | exact Sq.tup | exact Sq.tupN | exact Sq.ref _ rfl) ⟨rfl, rfl⟩)
  | `(tactic| walk_at "all") => `(tactic| exact wc_all (by assumption) (by first | exact SqO.lst | exact SqO.ref _ rfl) ⟨rfl, rfl⟩)

local macro_rules
  | `(tactic| walk_at "is_number") => `(tactic| exact ⟨_, rfl, by assumption, rfl, rfl⟩)
  | `(tactic| walk_at "tupled") => `(tactic| exact ⟨_, rfl, by assumption, rfl, rfl⟩)

theorem Bs.excC {X : Cx} (B : Bs X) : ExcC X.K (cnA X) ∧ PySem.W.kitOne X.K (.ref (cnA X)) (.type "ValueError") = some true := by
  have h := B.exC
  unfold TH.exC at h
  simp only [Bool.and_eq_true, decide_eq_true_eq] at h
  obtain ⟨h1, h2, h3, h4, h5, h6, h7, h8, h9⟩ := h
  exact ⟨⟨h1, h2, h3, h4, h5, h6, h7, h8⟩, h9⟩
/-- a def by its body; the frames are told -/
theorem def_byT {X : Cx} (B : Bs X) {x : Str} (j i g : Nat) {N ps : List Str} {k : Nat} {s : SpD} (hf : TH.fn[i]? = some (TH.dD x j)) (hg : TH.fa[g]? = some (.glo x)) (S : FnScope N ps (defScope (TH.top j)))
    (hb : ∀ (kV doc pm : Value) (an : Option Addr) (cdv ct : Value) (us : List Value), us.length = ps.length → bindArgs (PySem.W.fnOf x x (defArgs (TH.top j)) (defBody (TH.top j)) (defScope (TH.top j)) .none kV doc pm an cdv ct) ⟨us, []⟩ = pure (ps.zip us))
    (len : ∀ ds M Q, s ds M Q → ds.length = ps.length)
    (hbody : ∀ X' : Cx, XOk X' N (defScope (TH.top j)) k true → Bs X' → X'.stack = X'.env :: X'.outer → X'.env.frame = some X'.env.locals → ∀ ds M QD, s ds M QD → WSs X' (defBody (TH.top j)) (startD N ds) M { nx := fun _ M' => Rtn QD .non M', rt := Rtn QD }) : Dn X x (k + 1) ps s := by
  obtain ⟨fd, F⟩ := B.c.def_ i hf
  have F' : FunD X.K x x (defArgs (TH.top j)) (defBody (TH.top j)) (defScope (TH.top j)) [] [] (He.ga X.K x) fd := F
  have hm : X.mg x = some (.ref (He.ga X.K x)) := by
    obtain ⟨h, I, G⟩ := B.h
    exact He.glo_ok I G (B.c.fact g hg)
  refine ⟨_, fd, F'.ok S (fun vs H Q E h => ?_) (fun cdv A outer s0 H vs Q E hr h => ?_), hm, F'.kp, F'.bindsN hb⟩
  · obtain ⟨ds, M, QD, r, _, q, _⟩ := h
    rw [r.len]
    exact len _ _ _ q
  · obtain ⟨ds, M, QD, r, m, q, l⟩ := h
    refine ⟨_, PSs.nox pss_wp, ?_⟩
    have e6 : (cxOf CX0 X.prog X.w X.K X.mg X.base N x (defScope (TH.top j)) (He.ga X.K x) cdv A outer s0 H E).nox.stack = (cxOf CX0 X.prog X.w X.K X.mg X.base N x (defScope (TH.top j)) (He.ga X.K x) cdv A outer s0 H E).nox.env :: (cxOf CX0 X.prog X.w X.K X.mg X.base N x (defScope (TH.top j)) (He.ga X.K x) cdv A outer s0 H E).nox.outer := rfl
    have e7 : (cxOf CX0 X.prog X.w X.K X.mg X.base N x (defScope (TH.top j)) (He.ga X.K x) cdv A outer s0 H E).nox.env.frame = some (cxOf CX0 X.prog X.w X.K X.mg X.base N x (defScope (TH.top j)) (He.ga X.K x) cdv A outer s0 H E).nox.env.locals := rfl
    generalize hX : (cxOf CX0 X.prog X.w X.K X.mg X.base N x (defScope (TH.top j)) (He.ga X.K x) cdv A outer s0 H E).nox = X' at e6 e7
    have e1 : X'.prog = X.prog := by rw [← hX]; rfl
    have e2 : X'.w = X.w := by rw [← hX]; rfl
    have e3 : X'.K = X.K := by rw [← hX]; rfl
    have e4 : X'.mg = X.mg := by rw [← hX]; rfl
    have e5 : X'.base = X.base := by rw [← hX]; rfl
    have ok : XOk X' N (defScope (TH.top j)) k true := by
      rw [← hX]
      exact ⟨rfl, S.nd, S.kind, rfl, hr, fun _ _ => rfl, PassesOwn.never, rfl⟩
    have eg : gx X' = gx X := by show (⟨X'.prog, X'.w, X'.K⟩ : GX) = _; rw [e1, e2, e3]
    have hw := hbody X' ok (B.same e3 e4) e6 e7 ds M QD q (L2.start N vs) H (by rw [eg]; exact at_start m r) { nx := fun _ H' => Q .non H', rt := Q } ?_
    · exact hw
    · rw [eg]
      have fin : ∀ v d M' H', Rtn QD d M' → MSt (gx X) M' H' → Fx M H M' H' → Rp (gx X) (hid (adr M') H') v d → Q v H' := fun v d M' H' ⟨d', M2, Gs, e, fz, qd⟩ m' f' r' => by
        subst e
        exact l v d' M2 H' qd m'.drops (Ex.trans f' hid_app) (fz.rp m' r')
      exact ⟨fun ρ' M' σ' H' q' a' f' => fin .non .non M' H' q' a'.m f' .non, fin, fun _ _ _ _ z => z.elim, fun _ _ _ _ z => z.elim⟩
section
variable {X : Cx} {N : List Str} {sc : Scope} {k : Nat} {b : Bool} {ρ : EnvD} {M : MS} {pos : Pos}
/-- f(k = v, ..) of a def that may raise CanNot, f any expression -/
theorem wp_callX (h : XOk X N sc k b) {x : Str} {j : Nat} {ps ks : List Str} {g : {α : Type} → List α → List α} {s : SpX} {func : Expr} {kws : List Keyword} {QD : D → MS → Prop} {QE : MS → Prop} (F : DnX X x j ps ks g s) (hk : j ≤ k)
    (hf : ∀ f, X.mg x = some (.ref f) → DE X func ρ M (.ref f) M) (hgD : ∀ {G : GX} {H : Hp} {vs : List V} {ds : List D}, RpA G H vs ds → RpA G H (g vs) (g ds))
    (ha : WK X kws ρ M fun ds M1 => ds.length = ks.length ∧ s (g ds) M1 QD QE) {W : L2.WX} (tk : Takes X W) {σ : L2.St} {H : Hp} (a : At (gx X) ρ M σ H) {Qv : VK} (l : Lft (gx X) M H QD Qv) (lw : LftX (gx X) M H QE fun H' => W (.ref (cnA X)) none σ H')
    (he : eval (.Call func [] kws pos) X.env = (do callWith pos (← eval func X.env) [] (backTo pos (starEach [] X.env)) (backToKw pos (keywordEach kws X.env))))
    (hall : (backToKw pos (keywordEach kws X.env)).all (·.1.isSome) = true) (hks : (backToKw pos (keywordEach kws X.env)).filterMap (·.1) = ks)
    (hpl : ((backTo pos (starEach [] X.env)).any (·.1) || (backToKw pos (keywordEach kws X.env)).any (·.1.isNone)) = false) : wpE X (.Call func [] kws pos) σ H Qv := by
  obtain ⟨f, fd, ok, hm, hkp, hkb⟩ := F
  have e1 := hf f hm σ H a (fun v H' => v = .ref f ∧ MSt (gx X) M H' ∧ Fx M H M H') fun v d M' H' ⟨e1, e2⟩ m f1 r => by
    subst e1 e2
    cases r
    exact ⟨rfl, m, f1⟩
  unfold wpE at e1 ⊢
  intro pins sh I
  rw [he]
  refine wpAny_bind (wpAny_mono (e1 pins sh I) (fun u s1 hu => ?_) fun _ _ z => z)
  obtain ⟨v, H1, I1, r1, rfl, m1, f1⟩ := hu
  cases (show u = Value.ref f from r1)
  refine PySem.W.callWith_KW0 (h₀ := X.base) I1.ok.mod.kin hkp hall (thn (pk_wp.run pos pins s1 σ H1 (fun zs H2 => zs.length = ks.length ∧ spX X s (g zs) H2 Qv fun cls d H' => cls = .ref (cnA X) ∧ d = none ∧ W (.ref (cnA X)) none σ H') I1 (ha σ H1 (a.step m1 f1) _ fun vs ds M2 H2 ⟨hl, q⟩ m2 f2 r2 => ⟨by rw [r2.len]; exact hl, g ds, M2, QD, QE, hgD r2, m2, q, l.go (Ex.trans f1 f2), fun M' H' q' m' f' => ⟨rfl, rfl, lw M' H' q' m' (Ex.trans f1 (Ex.trans f2 f'))⟩⟩)) fun ws s2 ⟨zs, H2, I2, rz, hl, q2⟩ => ⟨I2.kIn, ?_⟩) hpl
  rw [hks]
  have r2 := hkb.rel (us := []) (vs := []) .nil rz
  refine wpAny_call (codeAny_mono ((ok.mono hk).run X.A X.stack s2 H2 ⟨[] ++ [], ks.zip ws⟩ (g ws) (g zs) Qv _ h.room I2.env0 (hkb.to s2 [] ws I2.kIn rfl (rz.length.symm.trans hl)) r2 q2) fun r s' hq => ?_)
  cases r with
  | error e => exact tk e s' (XE.of_call I2 (fun cls d H' ⟨a1, a2, w⟩ => by subst a1 a2; exact w) hq)
  | ok fl =>
    cases fl with
    | ret u => exact I2.after hq
    | next => exact False.elim hq
    | brk => exact False.elim hq
    | cont => exact False.elim hq
end
end DL

set_option maxHeartbeats 8000000
/-! walks: _law_heard. -/
namespace DL
open PySem PySem.Spec PyProof.Rows L2 Evl

local macro_rules
  | `(tactic| walk_at "op") => `(tactic| first
    | exact wo_add ⟨rfl, rfl⟩ | exact wo_sub ⟨rfl, rfl⟩ | exact wo_lt ⟨rfl, rfl⟩ | exact wo_le ⟨rfl, rfl⟩ | exact wo_gt ⟨rfl, rfl⟩ | exact wo_ge ⟨rfl, rfl⟩
    | exact wo_eqi ⟨rfl, rfl⟩ | exact wo_nei ⟨rfl, rfl⟩ | exact wo_eqb ⟨rfl, rfl⟩ | exact wo_neb ⟨rfl, rfl⟩ | exact wo_isN ⟨rfl, rfl⟩ | exact wo_notN ⟨rfl, rfl⟩)
  | `(tactic| walk_at "sq") => `(tactic| first | exact Sq.tup | exact Sq.lst | exact Sq.tupN | exact Sq.ref _ rfl)
  | `(tactic| walk_at "at") => `(tactic| first | rfl | assumption)
  | `(tactic| walk_at "isi") => `(tactic| first | exact wc_isI (by assumption) ⟨rfl, rfl⟩ | exact wc_isB (by assumption) ⟨rfl, rfl⟩ | exact wc_isT (by assumption) ⟨rfl, rfl⟩ | exact wc_isL (by assumption) ⟨rfl, rfl⟩ | exact wc_isLT (by assumption) ⟨rfl, rfl⟩ | exact wc_isBS (by assumption) ⟨rfl, rfl⟩)
  | `(tactic| walk_at "len") => `(tactic| exact wc_len (by first | exact Sq.tup | exact Sq.lst | exact Sq.tupN | exact Sq.ref _ rfl) ⟨rfl, rfl⟩)
  | `(tactic| walk_at "tuple") => `(tactic| exact wc_tuple (by first | exact Sq.lst | exact Sq.tup | exact Sq.tupN | exact Sq.ref _ rfl) ⟨rfl, rfl⟩)
  | `(tactic| walk_at "all") => `(tactic| exact wc_all (by assumption) (by first | exact SqO.lst | exact SqO.ref _ rfl) ⟨rfl, rfl⟩)

local macro_rules
  | `(tactic| walk_at "is_number") => `(tactic| exact ⟨_, rfl, by assumption, rfl, rfl⟩)
  | `(tactic| walk_at "tupled") => `(tactic| exact ⟨_, rfl, by assumption, rfl, rfl⟩)

theorem boot_VE : bootBuiltins "ValueError" = some (.type "ValueError") := by decide +kernel
theorem At.unset {G : GX} {ρ : EnvD} {M : MS} {σ : L2.St} {H : Hp} (a : At G ρ M σ H) (i : Nat) : At G (ρ.set i none) M (σ.set i none) H := by
  refine ⟨a.m, fun j e h => ?_, by rw [List.length_set, List.length_set, a.len]⟩
  by_cases hj : i = j
  · subst hj
    by_cases hi : i < ρ.length
    · rw [List.getElem?_set_self hi] at h
      cases h
    · rw [List.getElem?_eq_none (by rw [List.length_set]; omega)] at h
      cases h
  · rw [List.getElem?_set_ne hj] at h
    rw [List.getElem?_set_ne hj]
    exact a.env j e h
section
variable {X : Cx} {N : List Str} {sc : Scope} {k : Nat} {ρ : EnvD} {M : MS} {pos pos' np : Pos} {E : DEnds}
theorem ws_tryC (h : XOk X N sc k true) (B : Bs X) (hs : X.stack = X.env :: X.outer) (hf : X.env.frame = some X.env.locals) (i : Nat) {n : Str} {body suite : List Stmt} {b₀ : Stmt} {QE : MS → Prop} (hi : N[i]? = some n) (hln : locB sc n = true) (hg : glB sc "CanNot" = true)
    (hbody : ∀ Y : Cx, XOk Y N sc k true → Bs Y → gx Y = gx X → cnA Y = cnA X → ∀ W : L2.WX, Takes Y W → ∀ σ H D, At (gx Y) ρ M σ H → Lk (gx Y) M H E D → (LftX (gx Y) M H QE fun H' => W (.ref (cnA X)) none σ H') → wpSs Y body D σ H)
    (hsuite : ∀ (a : Addr) (oe : Obj) (pn : List (Addr × Obj)), Zc (.ref (cnA X)) none oe → (∃ vs, oe.data = .fields vs) → ∀ M', QE M' → WSs (X.suite a ((a, oe) :: pn)) (b₀ :: suite) (ρ.set i (some (.ref a))) M' { nx := fun ρ' M' => E.nx (ρ'.set i none) M', rt := E.rt, bk := fun ρ' M' => E.bk (ρ'.set i none) M', ct := fun ρ' M' => E.ct (ρ'.set i none) M' }) :
    WS X (.Try body [.ExceptHandler (some (.Name "CanNot" np)) (some n) (b₀ :: suite) pos'] [] [] pos) ρ M E := fun σ H a D l => by
  refine wp_ps (ps_try_as (x := "CanNot") (c := .ref (cnA X)) (i := i) (tb := fun W D σ H => ∀ pn xe, Takes (X.tr pn xe) W → PassesOwn (model X.prog X.w) X.A X.env xe → wpSs (X.tr pn xe) body D σ H)
    (ts := fun a cls d D σ H => ∀ oe pn, Zc cls d oe → (∃ vs, oe.data = .fields vs) → wpSs (X.suite a ((a, oe) :: pn)) (b₀ :: suite) D σ H) (Wout := fun _ _ _ _ => False) hs hf (by rw [h.n]; exact h.nd) (by rw [h.n]; exact hi) ?kind ⟨h.gl hg, by decide +kernel, .inl B.cn.mg⟩ ?tk ?hb ?hsu) ?main
  case kind =>
    unfold Env.kindOf
    exact h.lcl hln
  case tk => exact fun u s' ⟨_, _, _, _, _, _, _, _, _, _, _, _, _, _, _, _, w⟩ => w.elim
  case hb => exact fun W pn xe tk po => ⟨fun pins s σ H D I q => pss_wp.run pins s σ H D I (q pn xe tk po)⟩
  case hsu => exact fun a oe cls d pn hz hv => ⟨fun pins s σ H D I q => pss_wp.run pins s σ H D I (q oe pn hz hv)⟩
  case main =>
    intro pn xe tk po
    refine hbody (X.tr pn xe) ⟨h.n, h.nd, h.kind, h.calm, h.room, h.fn, po, h.scp⟩ (B.same rfl rfl) rfl rfl _ tk σ H D a l fun M' H' q m f => ?_
    refine ⟨true, B.cn.nm, fun _ ad had oe pn2 hz hv => ?_, fun z => (nomatch z)⟩
    have a2 : At (gx X) (ρ.set i (some (.ref ad))) M' (σ.set i (some (.ref ad))) H' := (a.step m f).set (.ref ad)
    exact hsuite ad oe pn2 hz hv M' q _ H' a2 _ ⟨fun ρ2 M2 σ2 H2 q2 a3 f2 => l.nx _ M2 _ H2 q2 (a3.unset i) (Ex.trans f f2), l.rt.go f, fun ρ2 M2 σ2 H2 q2 a3 f2 => l.bk _ M2 _ H2 q2 (a3.unset i) (Ex.trans f f2), fun ρ2 M2 σ2 H2 q2 a3 f2 => l.ct _ M2 _ H2 q2 (a3.unset i) (Ex.trans f f2)⟩
end
def cnD : D := .lst [.str "can not", .bl true]
theorem s_inside.imp {ds : List D} {M : MS} {Q Q' : D → MS → Prop} {QE QE' : MS → Prop} (h : s_inside ds M Q QE) (h1 : ∀ d M', Q d M' → Q' d M') (h2 : ∀ M', QE M' → QE' M') : s_inside ds M Q' QE' := by
  obtain ⟨d, e, r, bs, a1, a2, a3, a4, a5, a6, a7, q1, q2⟩ := h
  exact ⟨d, e, r, bs, a1, a2, a3, a4, a5, a6, a7, fun F hF => h1 _ _ (q1 F hF), fun hF => h2 _ (q2 hF)⟩
theorem s_why.imp {ds : List D} {M : MS} {Q Q' : D → MS → Prop} {QE QE' : MS → Prop} (h : s_why ds M Q QE) (h1 : ∀ d M', Q d M' → Q' d M') (h2 : ∀ M', QE M' → QE' M') : s_why ds M Q' QE' := by
  obtain ⟨d, e, r, bs, a1, a2, a3, a4, a5, a6, a7, q⟩ := h
  exact ⟨d, e, r, bs, a1, a2, a3, a4, a5, a6, a7, fun L fd hr hst => ⟨fun c => h1 _ _ ((q L fd hr hst).1 c), fun c => h2 _ ((q L fd hr hst).2 c)⟩⟩
def s_law_heard : SpD := fun ds M Q => ∃ d e, (ds = [.int 0, d, e] ∧ s_inside [d, e] M Q fun M' => Q cnD M') ∨ (ds = [.int 1, d, e] ∧ s_why [d, e] M Q fun M' => Q cnD M')
theorem ok__law_heard {X : Cx} (B : Bs X) : Dn X "_law_heard" 9 ["_law_door", "_law_ground", "_law_row_so"] s_law_heard := by
  refine def_byT B 85 70 70 (k := 8) (N := ["_law_door", "_law_ground", "_law_row_so", "_law_found", "error_a"]) rfl rfl ⟨rfl, rfl, rfl, by decide +kernel, rfl, by decide +kernel, by decide +kernel⟩ (fun _ _ _ _ _ _ us hl => match us, hl with | [_, _, _], _ => rfl) ?len ?body
  case len => rintro _ _ _ ⟨_, _, ⟨rfl, _⟩ | ⟨rfl, _⟩⟩ <;> rfl
  case body =>
    intro X' h B hs hf ds M QD hq
    have fin : ∀ (d e : D) (k : Int) (v : D) (o4 : Option D) (M' : MS), WE X' _ ([some (.int k), some d, some e, some v, o4] : EnvD) M' (Rtn QD) → WSs X' ((defBody (TH.top 85)).drop 2) [some (.int k), some d, some e, some v, o4] M' { nx := fun _ M' => Rtn QD .non M', rt := Rtn QD } := fun d e k v o4 M' q => wss_one (ws_ret q)
    obtain ⟨d, e, hq⟩ := hq
    have fin2 : ∀ (k : Int) (M' : MS) (p : Addr), QD cnD M' → WSs X' ((defBody (TH.top 85)).drop 2) [some (.int k), some d, some e, some (.ref p), none] ((p, .lst [.str "can not", .bl true]) :: M') { nx := fun _ M' => Rtn QD .non M', rt := Rtn QD } := fun k M' p q =>
      fin d e k (.ref p) none _ (DE.to (de_var h 3 rfl rfl rfl) ⟨cnD, M', [(p, _)], rfl, .ref (List.mem_singleton.mpr rfl), q⟩)
    have isi : ∀ (k : Int) (a : Addr) (oe : Obj) (pn : List (Addr × Obj)), Zc (.ref (cnA X')) none oe → (∃ vs, oe.data = .fields vs) → ∀ (M' : MS) (p1 p2 p3 pos : Pos), DE (X'.suite a ((a, oe) :: pn)) (.Call (.Name "isinstance" p1) [.Name "error_a" p2, .Name "ValueError" p3] [] pos) ([some (.int k), some d, some e, some .non, some (.ref a)] : EnvD) M' (.bl true) M' := fun k a oe pn hz hv M' p1 p2 p3 pos σ H at0 Qv l => by
      obtain ⟨v4, ev4, rv4⟩ := at0.env 4 _ rfl
      cases rv4
      refine wp_pe (X := X'.suite a ((a, oe) :: pn)) (pe_callB (X := X'.suite a ((a, oe) :: pn)) (call_isE B.excC.1 hz hv) (h.gl rfl) B.f_isinstance boot_isinstance (pa_cons (X := X'.suite a ((a, oe) :: pn)) (pe_var (X := X'.suite a ((a, oe) :: pn)) (i := 4) (by show X'.N[4]? = _; rw [h.n]; rfl) (h.vis rfl) (by decide +kernel) (by decide +kernel)) (pa_cons (X := X'.suite a ((a, oe) :: pn)) (pe_tyN (X := X'.suite a ((a, oe) :: pn)) (h.gl rfl) B.f_ValueError boot_VE) pa_nil)) (by decide +kernel) (by decide +kernel)) ?_
      exact ⟨_, ev4, .ty "ValueError", _, true, rfl, fun u hu => hu, B.excC.2, l _ (.bl true) M' H ⟨rfl, rfl⟩ at0.m Fx.refl (.bl true)⟩
    rcases hq with ⟨rfl, hq⟩ | ⟨rfl, hq⟩
    · refine wss_cons (ws_set h 3 rfl rfl (DE.to de_non ?_))
      refine wss_cons (ws_tryC h B hs hf 4 (QE := fun M' => QD cnD M') rfl rfl rfl ?body ?suite)
      case suite =>
        intro a oe pn hz hv M' q σ H at0 D0 l
        refine wp_pss (X := X'.suite a ((a, oe) :: pn)) (pss_one (X := X'.suite a ((a, oe) :: pn)) (ps_set (X := X'.suite a ((a, oe) :: pn)) (i := 3) (by show List.Nodup X'.N; rw [h.n]; exact h.nd) (by show X'.N[3]? = _; rw [h.n]; rfl) (h.loc rfl).1 pe_wp (hf := (h.loc rfl).2))) ?_
        show wpE (X'.suite a ((a, oe) :: pn)) _ σ H _
        refine (do_lst (X := X'.suite a ((a, oe) :: pn)) (M := M') (M' := M') (da_cons de_str (da_cons (isi 0 a oe pn hz hv M' _ _ _ _) da_nil))) σ H at0 _ fun v d' M2 H2 ⟨p, e1, e2⟩ m2 f2 r2 => ?fin
        case fin =>
          subst e1 e2
          exact l.nx (([some (.int 0), some d, some e, some .non, some (.ref a)] : EnvD).set 3 (some (.ref p))) _ _ _ (fin2 0 M' p q) ((at0.step m2 f2).set r2) f2
      case body =>
        intro Y hY BY eg ec W tk σ H D0 at0 l lw
        refine wp_pss (X := Y) (pss_one (X := Y) (ps_set (X := Y) (i := 3) (by rw [hY.n]; exact hY.nd) (by rw [hY.n]; rfl) (hY.loc rfl).1 pe_wp (hf := (hY.loc rfl).2))) ?_
        show wpE Y _ σ H _
        have hq' : s_inside (swp [e, d]) M (fun d' M' => WSs X' ((defBody (TH.top 85)).drop 2) [some (.int 0), some d, some e, some d', none] M' { nx := fun _ M' => Rtn QD .non M', rt := Rtn QD }) (fun M' => QD cnD M') := hq.imp (fun d' M' q => fin d e 0 d' none M' (DE.to (de_var h 3 rfl rfl rfl) (.now q))) fun M' q => q
        refine wp_callX hY (ok_inside BY) (by decide) (ρ := [some (.int 0), some d, some e, some .non, none]) (M := M) (fun f hm => ?fn) swp_rp (wk_cons (DE.to (de_var hY 2 rfl rfl rfl) (wk_cons (DE.to (de_var hY 1 rfl rfl rfl) (wk_nil ⟨rfl, hq'⟩))))) tk at0 (fun v d' M' H' q m f r => l.nx _ M' _ H' q ((at0.step m f).set (i := 3) r) f) (by rw [ec]; exact lw) rfl rfl rfl rfl
        case fn =>
          have hm2 : Y.mg "why_no_border" = some (.ref (He.ga Y.K "why_no_border")) := by
            obtain ⟨h, I, G⟩ := BY.h
            exact He.glo_ok I G (BY.c.fact 38 rfl)
          exact de_ix (DO.frz (do_lst (da_cons (de_glob hY rfl hm (v := .ref f) (d := .ref f) rfl (fun H => Rp.ref _)) (da_cons (de_glob hY rfl hm2 (v := .ref (He.ga Y.K "why_no_border")) (d := .ref (He.ga Y.K "why_no_border")) rfl (fun H => Rp.ref _)) da_nil)))) (de_var hY 0 rfl rfl rfl) .lst rfl
    · refine wss_cons (ws_set h 3 rfl rfl (DE.to de_non ?_))
      refine wss_cons (ws_tryC h B hs hf 4 (QE := fun M' => QD cnD M') rfl rfl rfl ?body ?suite)
      case suite =>
        intro a oe pn hz hv M' q σ H at0 D0 l
        refine wp_pss (X := X'.suite a ((a, oe) :: pn)) (pss_one (X := X'.suite a ((a, oe) :: pn)) (ps_set (X := X'.suite a ((a, oe) :: pn)) (i := 3) (by show List.Nodup X'.N; rw [h.n]; exact h.nd) (by show X'.N[3]? = _; rw [h.n]; rfl) (h.loc rfl).1 pe_wp (hf := (h.loc rfl).2))) ?_
        show wpE (X'.suite a ((a, oe) :: pn)) _ σ H _
        refine (do_lst (X := X'.suite a ((a, oe) :: pn)) (M := M') (M' := M') (da_cons de_str (da_cons (isi 1 a oe pn hz hv M' _ _ _ _) da_nil))) σ H at0 _ fun v d' M2 H2 ⟨p, e1, e2⟩ m2 f2 r2 => ?fin
        case fin =>
          subst e1 e2
          exact l.nx (([some (.int 1), some d, some e, some .non, some (.ref a)] : EnvD).set 3 (some (.ref p))) _ _ _ (fin2 1 M' p q) ((at0.step m2 f2).set r2) f2
      case body =>
        intro Y hY BY eg ec W tk σ H D0 at0 l lw
        refine wp_pss (X := Y) (pss_one (X := Y) (ps_set (X := Y) (i := 3) (by rw [hY.n]; exact hY.nd) (by rw [hY.n]; rfl) (hY.loc rfl).1 pe_wp (hf := (hY.loc rfl).2))) ?_
        show wpE Y _ σ H _
        have hq' : s_why (swp [e, d]) M (fun d' M' => WSs X' ((defBody (TH.top 85)).drop 2) [some (.int 1), some d, some e, some d', none] M' { nx := fun _ M' => Rtn QD .non M', rt := Rtn QD }) (fun M' => QD cnD M') := hq.imp (fun d' M' q => fin d e 1 d' none M' (DE.to (de_var h 3 rfl rfl rfl) (.now q))) fun M' q => q
        refine wp_callX hY (ok_why_no_border BY) (by decide) (ρ := [some (.int 1), some d, some e, some .non, none]) (M := M) (fun f hm => ?fn) swp_rp (wk_cons (DE.to (de_var hY 2 rfl rfl rfl) (wk_cons (DE.to (de_var hY 1 rfl rfl rfl) (wk_nil ⟨rfl, hq'⟩))))) tk at0 (fun v d' M' H' q m f r => l.nx _ M' _ H' q ((at0.step m f).set (i := 3) r) f) (by rw [ec]; exact lw) rfl rfl rfl rfl
        case fn =>
          have hm2 : Y.mg "inside" = some (.ref (He.ga Y.K "inside")) := by
            obtain ⟨h, I, G⟩ := BY.h
            exact He.glo_ok I G (BY.c.fact 36 rfl)
          exact de_ix (DO.frz (do_lst (da_cons (de_glob hY rfl hm2 (v := .ref (He.ga Y.K "inside")) (d := .ref (He.ga Y.K "inside")) rfl (fun H => Rp.ref _)) (da_cons (de_glob hY rfl hm (v := .ref f) (d := .ref f) rfl (fun H => Rp.ref _)) da_nil)))) (de_var hY 0 rfl rfl rfl) .lst rfl
end DL

set_option maxHeartbeats 8000000
/-! walks: _law_barred_right, _law_bent_border. -/
namespace DL
open PySem PySem.Spec PyProof.Rows L2 Evl

local macro_rules
  | `(tactic| walk_at "op") => `(tactic| first
    | exact wo_add ⟨rfl, rfl⟩ | exact wo_sub ⟨rfl, rfl⟩ | exact wo_lt ⟨rfl, rfl⟩ | exact wo_le ⟨rfl, rfl⟩ | exact wo_gt ⟨rfl, rfl⟩ | exact wo_ge ⟨rfl, rfl⟩
    | exact wo_eqi ⟨rfl, rfl⟩ | exact wo_nei ⟨rfl, rfl⟩ | exact wo_eqb ⟨rfl, rfl⟩ | exact wo_neb ⟨rfl, rfl⟩ | exact wo_isN ⟨rfl, rfl⟩ | exact wo_notN ⟨rfl, rfl⟩)
  | `(tactic| walk_at "sq") => `(tactic| first | exact Sq.tup | exact Sq.lst | exact Sq.tupN | exact Sq.ref _ rfl)
  | `(tactic| walk_at "at") => `(tactic| first | rfl | assumption)
  | `(tactic| walk_at "isi") => `(tactic| first | exact wc_isI (by assumption) ⟨rfl, rfl⟩ | exact wc_isB (by assumption) ⟨rfl, rfl⟩ | exact wc_isT (by assumption) ⟨rfl, rfl⟩ | exact wc_isL (by assumption) ⟨rfl, rfl⟩ | exact wc_isLT (by assumption) ⟨rfl, rfl⟩ | exact wc_isBS (by assumption) ⟨rfl, rfl⟩)
  | `(tactic| walk_at "len") => `(tactic| exact wc_len (by first | exact Sq.tup | exact Sq.lst | exact Sq.tupN | exact Sq.ref _ rfl) ⟨rfl, rfl⟩)
  | `(tactic| walk_at "tuple") => `(tactic| exact wc_tuple (by first | exact Sq.lst | exact Sq.tup | exact Sq.tupN | exact Sq.ref _ rfl) ⟨rfl, rfl⟩)
  | `(tactic| walk_at "all") => `(tactic| exact wc_all (by assumption) (by first | exact SqO.lst | exact SqO.ref _ rfl) ⟨rfl, rfl⟩)

local macro_rules
  | `(tactic| walk_at "is_number") => `(tactic| exact ⟨_, rfl, by assumption, rfl, rfl⟩)
  | `(tactic| walk_at "tupled") => `(tactic| exact ⟨_, rfl, by assumption, rfl, rfl⟩)

theorem letB_cases (r : List Pt) (bs : List Int) (s : Pt) : (∃ k ∈ bs, letF (letsB r bs) s = [k]) ∨ letF (letsB r bs) s = kindsL := by
  unfold letF toldF
  cases e : (letsB r bs).reverse.lookup s with
  | none => exact .inr rfl
  | some ks =>
    have hm := List.mem_reverse.mp (lookup_mem e)
    unfold letsB at hm
    obtain ⟨x, hx, ex⟩ := List.mem_map.mp hm
    injection ex with _ e2
    exact .inl ⟨x.2, (List.of_mem_zip hx).2, e2.symm⟩
theorem letB_kinds {r : List Pt} {bs : List Int} (hb : GoodB r bs) : KindsOf (letF (letsB r bs)) := fun s k hk => by
  rcases letB_cases r bs s with ⟨k', h1, h2⟩ | h2
  · rw [h2] at hk
    rw [List.mem_singleton.mp hk]
    exact hb.2 _ h1
  · rw [h2] at hk; exact hk
section
variable {X : Cx} {ρ : EnvD} {M : MS}
theorem wi_vlE {tg e : Expr} {apos cpos : Pos} {kvs : List (NK × D)} {α : Type} {l0 : List α} {gd0 : α → D} (h : DE X e ρ M (.dic kvs) M) (q : kvs.map (·.2) = l0.map gd0) (hbase : attributeBase e "values" X.env (eval e X.env) = eval e X.env := by rfl) (hline : (apos.endLine == cpos.line) = true := by rfl) :
    WI X tg (.Call (.Attribute e "values" apos) [] [] cpos) ρ M (fun items Gd M1' => items = l0.map gd0 ∧ (∀ m, Gd (m :: M1')) ∧ M1' = M) := wi_vl (h.to ⟨kvs, rfl, q, fun _ => trivial, rfl⟩) hbase hline
end
theorem vals_left (r : List Pt) (L : Lf) : (leftK r L).map (·.2) = r.map fun s => intsD (L s) := by
  unfold leftK tabN
  rw [List.map_map]
  rfl
theorem falls_val (r : List Pt) (L : Lf) : (!eqD (D.lst ((r.filter fun s => (L s).isEmpty).map fun s => intsD (L s))) (D.lst [])) = fallsB r L := by
  rw [eqD_nil, List.isEmpty_map]
  rfl
theorem rep_grt {r : List Pt} {L0 L : Lf} {fd : List Stp} (h : Rep r L0 fd L) (st : ∀ spot ∈ spotsL r, Stab r L spot) : Grt r L0 L := by
  refine ⟨⟨fun s => ?_, fun G c le => h.keeps c le⟩, fun spot hs => st spot hs⟩
  clear st
  induction h with
  | nil => exact ⟨fun _ => true, (filter_tt _).symm⟩
  | @snoc L' sts st _ _ ih =>
    obtain ⟨p, e⟩ := ih
    unfold struck1 updL
    by_cases z : s = st.1
    · subst z
      rw [if_pos rfl, e]
      exact ⟨fun x => p x && decide (x ≠ st.2.1), by rw [List.filter_filter]; exact List.filter_congr fun x _ => Bool.and_comm _ _⟩
    · rw [if_neg z]
      exact ⟨p, e⟩
theorem cn_ok : okD 2 cnD = true := by decide +kernel
theorem cn_same : sameD 2 cnD cnD = true := by decide +kernel
def s_law_barred : SpD := fun ds M Q => ∃ (r : List Pt) (bs : List Int) (dr told : D) (L : Lf) (fd : List Stp), ds = [roomD r, dr, letsD (letsB r bs), told] ∧ Rm r ∧ GoodB r bs ∧ Rep r (letF (letsB r bs)) fd L ∧ (∀ spot ∈ spotsL r, Stab r L spot) ∧ fd.length ≤ 1000 ∧
  (fallsB r L = true → told = .tup (fd.map stepD)) ∧ (fallsB r L = false → told = cnD) ∧ Q (.bl true) M
theorem ok__law_barred_right {X : Cx} (B : Bs X) : Dn X "_law_barred_right" 6 ["_law_ground", "_law_row_so", "_law_lets_so", "_law_told"] s_law_barred := by
  refine def_by B 86 71 71 (k := 5) (N := ["_law_ground", "_law_row_so", "_law_lets_so", "_law_told", "_law_falls_so", "_law_own", "_law_left_so"]) rfl rfl ⟨rfl, rfl, rfl, by decide +kernel, rfl, by decide +kernel, by decide +kernel⟩ (fun _ _ _ _ _ _ us hl => match us, hl with | [_, _, _, _], _ => rfl) ?len ?body
  case len => rintro _ _ _ ⟨_, _, _, _, _, _, rfl, _⟩; rfl
  case body =>
    rintro X' h B _ M QD ⟨r, bs, dr, told, L, fd, rfl, hr, hb, rep, st, hfd, t1, t2, q⟩
    have hl := hr.len
    have ll := letsB_len (r := r) (bs := bs)
    have kk := letB_kinds hb
    have lo := letsB_ok r bs
    have nd := hr.nd
    have emp : ∀ (L : Lf) (s : Pt), eqD (intsD (L s)) (.lst []) = (L s).isEmpty := fun L s => by rw [intsD, eqD_nil, List.isEmpty_map]
    have n5 : ∀ s, (letF (letsB r bs) s).length ≤ 5 := fun s => (letF_ok lo s).2
    have cut : ∀ n (L : Lf) (l : List Pt), datB (n + 2) (D.lst (l.map fun s => intsD (L s))) = true := fun n L l => by
      show (l.map fun s => intsD (L s)).all (datB (n + 1)) = true
      rw [List.all_eq_true]
      rintro d hd
      obtain ⟨s, _, rfl⟩ := List.mem_map.mp hd
      exact datB_ints n (L s)
    have efalls : fallsB r (grtL r (letF (letsB r bs))) = fallsB r L := by
      exact (falls_congr (grt_eq (rep_grt rep st))).symm
    refine wss_cons (ws_set h 4 rfl rfl (DE.to (d := .bl (fallsB r L)) (DE.as (de_cmp (DO.frz (do_lcA h B r (fun s => intsD (grtL r (letF (letsB r bs)) s)) (fun s => (grtL r (letF (letsB r bs)) s).isEmpty) (fun s => intsD (grtL r (letF (letsB r bs)) s)) [("_law_own", 5)] (tg_name h 5 rfl rfl (by simp)) rfl
      ⟨wi_vlE (de_call h (ok__law_rounds B) rfl (da_cN (de_var h 0 rfl rfl rfl) (da_cN (de_var h 2 rfl rfl rfl) da_nil)) ⟨r, letsB r bs, rfl, nd, hl, lo, by omega, kk, rfl, rfl⟩) (vals_left _ _), by omega, fun s hs => ⟨_, rfl, fun X' ⟨h, B, _⟩ m => dt_cmp (de_var h 5 rfl rfl rfl) (do_lst da_nil).frz (wo_eqD h .id .id (datB_ints 59 _) rfl ⟨congrArg D.bl (emp _ s), rfl⟩), fun _ X' ⟨h, B, _⟩ m => (de_var h 5 rfl rfl rfl)⟩⟩)) (do_lst da_nil).frz (wo_neD h .id .id (cut 58 _ _) rfl ⟨rfl, rfl⟩)) (congrArg D.bl ((falls_val r _).trans efalls))) ?_))
    refine wss_cons (ws_if (DT.to (d := !fallsB r L) (dt_not (dt_val (de_var h 4 rfl rfl rfl))) ⟨fun c => ?_, fun c => wss_nil ?_⟩))
    · have hf : fallsB r L = false := by simpa using c
      have et := t2 hf
      subst et
      exact wss_one (ws_ret (DE.to (d := .bl true) (DE.as (de_call h (ok_law_same 2 (by decide) B) rfl (da_cN (de_var h 3 rfl rfl rfl) (da_cL (do_lst (da_cC de_str (da_cC de_bl da_nil))).frz da_nil)) ⟨cnD, cnD, rfl, cn_ok, cn_ok, rfl, rfl⟩) (congrArg D.bl cn_same)) (.now q)))
    · have hf : fallsB r L = true := by simpa using c
      have et := t1 hf
      subst et
      refine wss_cons (ws_set h 6 rfl rfl (DE.to (de_call h (ok__law_behind_steps B) rfl (da_cN (de_var h 0 rfl rfl rfl) (da_cN (de_var h 2 rfl rfl rfl) (da_cN (de_var h 3 rfl rfl rfl) da_nil))) ⟨r, letsB r bs, fd, L, rfl, nd, hl, lo, by omega, kk, rep, rfl, rfl⟩) ?_))
      refine wss_one (ws_ret (DE.to (d := .bl true) (DE.as (de_and (de_cmp (de_var h 6 rfl rfl rfl) de_non (by walk_at "op")) fun _ => de_one (de_cmp (DO.frz (do_lcA h B r (fun s => intsD (L s)) (fun s => (L s).isEmpty) (fun s => intsD (L s)) [("_law_own", 5)] (tg_name h 5 rfl rfl (by simp)) rfl
        ⟨wi_vlE (de_var h 6 rfl rfl rfl) (vals_left _ _), by omega, fun s hs => ⟨_, rfl, fun X' ⟨h, B, _⟩ m => dt_cmp (de_var h 5 rfl rfl rfl) (do_lst da_nil).frz (wo_eqD h .id .id (datB_ints 59 _) rfl ⟨congrArg D.bl (emp _ s), rfl⟩), fun _ X' ⟨h, B, _⟩ m => (de_var h 5 rfl rfl rfl)⟩⟩)) (do_lst da_nil).frz (wo_neD h .id .id (cut 58 _ _) rfl ⟨rfl, rfl⟩))) ?e) (.now q)))
      case e =>
        have := falls_val r L
        show D.bl (true && !eqD (D.lst _) (D.lst [])) = _
        rw [this, hf]
        rfl
end DL

set_option maxHeartbeats 8000000
/-! walks: _law_bent_border. -/
namespace DL
open PySem PySem.Spec PyProof.Rows L2 Evl

local macro_rules
  | `(tactic| walk_at "op") => `(tactic| first
    | exact wo_add ⟨rfl, rfl⟩ | exact wo_sub ⟨rfl, rfl⟩ | exact wo_lt ⟨rfl, rfl⟩ | exact wo_le ⟨rfl, rfl⟩ | exact wo_gt ⟨rfl, rfl⟩ | exact wo_ge ⟨rfl, rfl⟩
    | exact wo_eqi ⟨rfl, rfl⟩ | exact wo_nei ⟨rfl, rfl⟩ | exact wo_eqb ⟨rfl, rfl⟩ | exact wo_neb ⟨rfl, rfl⟩ | exact wo_isN ⟨rfl, rfl⟩ | exact wo_notN ⟨rfl, rfl⟩)
  | `(tactic| walk_at "sq") => `(tactic| first | exact Sq.tup | exact Sq.lst | exact Sq.tupN | exact Sq.ref _ rfl)
  | `(tactic| walk_at "at") => `(tactic| first | rfl | assumption)
  | `(tactic| walk_at "isi") => `(tactic| first | exact wc_isI (by assumption) ⟨rfl, rfl⟩ | exact wc_isB (by assumption) ⟨rfl, rfl⟩ | exact wc_isT (by assumption) ⟨rfl, rfl⟩ | exact wc_isL (by assumption) ⟨rfl, rfl⟩ | exact wc_isLT (by assumption) ⟨rfl, rfl⟩ | exact wc_isBS (by assumption) ⟨rfl, rfl⟩)
  | `(tactic| walk_at "len") => `(tactic| exact wc_len (by first | exact Sq.tup | exact Sq.lst | exact Sq.tupN | exact Sq.ref _ rfl) ⟨rfl, rfl⟩)
  | `(tactic| walk_at "tuple") => `(tactic| exact wc_tuple (by first | exact Sq.lst | exact Sq.tup | exact Sq.tupN | exact Sq.ref _ rfl) ⟨rfl, rfl⟩)
  | `(tactic| walk_at "all") => `(tactic| exact wc_all (by assumption) (by first | exact SqO.lst | exact SqO.ref _ rfl) ⟨rfl, rfl⟩)

local macro_rules
  | `(tactic| walk_at "is_number") => `(tactic| exact ⟨_, rfl, by assumption, rfl, rfl⟩)
  | `(tactic| walk_at "tupled") => `(tactic| exact ⟨_, rfl, by assumption, rfl, rfl⟩)

def s_law_rimN : SpD := fun ds M Q => ∃ (r : List Pt), ds = [roomD r] ∧ r.length ≤ 1000 ∧ Q (.tupN ((rimL r).map sqD)) M
theorem okN_law_rim {X : Cx} (B : Bs X) : Dn X "_law_rim" 2 ["_law_ground"] s_law_rimN := by
  refine def_by B 63 48 48 (k := 1) (N := ["_law_ground", "_law_spot", "_law_own"]) rfl rfl ⟨rfl, rfl, rfl, by decide +kernel, rfl, by decide +kernel, by decide +kernel⟩ (fun _ _ _ _ _ _ us hl => match us, hl with | [_], _ => rfl) ?len ?body
  case len => rintro _ _ _ ⟨_, rfl, _⟩; rfl
  case body =>
    rintro X' h B _ M QD ⟨r, rfl, hl, q⟩
    refine wss_one (ws_ret (DE.to (de_callTy h rfl B.f_tuple boot_tuple (da_cons (DO.frz (do_lcA h B r sqD (fun s => !nearAll r (eight s)) sqD [("_law_spot", 1)] (tg_name h 1 rfl rfl (by simp)) rfl ⟨wi_tupE (de_var h 0 rfl rfl rfl) rfl, by omega, fun x hx => ⟨_, rfl, fun X' ⟨h, B, _⟩ m => ?t, fun _ X' ⟨h, B, _⟩ m => (de_var h 1 rfl rfl rfl)⟩⟩)) da_nil) (wc_tupleN .lst ⟨rfl, rfl⟩)) (.now q)))
    refine dt_cmp (DO.frz (do_lcA h B (eight x) sqD (fun n => !decide (n ∈ r)) sqD [("_law_own", 2)] (tg_name h 2 rfl rfl (by simp)) rfl ⟨wi_lstE (de_call h (ok__law_around B) rfl (da_cN (de_var h 1 rfl rfl rfl) da_nil) ⟨x, rfl, rfl, rfl⟩) rfl, by simp [eight], fun n _ => ⟨_, rfl, fun X' ⟨h, B, _⟩ m => dt_cmp (de_var h 2 rfl rfl rfl) (de_var h 0 rfl rfl rfl) (wo_nin h .id .tup (datB_sq 59 n) (datB_sqs 59 r) ⟨by rw [anyD_sq], rfl⟩), fun _ X' ⟨h, B, _⟩ m => (de_var h 2 rfl rfl rfl)⟩⟩)) (do_lst da_nil).frz (wo_neD h .id .id (datB_pts 58 _) rfl ⟨?e, rfl⟩)
    show D.bl (!eqD (D.lst _) (D.lst [])) = _
    rw [eqD_nil, List.isEmpty_map, nin_emp]
theorem rim_ne {r : List Pt} (hr : Rm r) : rimL r ≠ [] := by
  have hne := hr.ne
  have asc := hr.asc
  cases r with
  | nil => exact absurd rfl hne
  | cons p r' =>
    have : p ∈ rimL (p :: r') := by
      unfold rimL
      rw [List.mem_filter]
      refine ⟨by simp, ?_⟩
      have hn : ((p.1 - 1, p.2 - 1) : Pt) ∉ p :: r' := fun z => by
        rcases List.mem_cons.mp z with e | z
        · have := congrArg Prod.fst e
          simp only at this
          omega
        · have := (List.pairwise_cons.mp asc).1 _ z
          rcases this with w | w <;> simp only at w <;> omega
      cases e : nearAll (p :: r') (eight p) with
      | false => rfl
      | true => exact absurd (eight_in e).1 hn
    intro e
    rw [e] at this
    cases this
theorem good_set {r : List Pt} {bs : List Int} (hb : GoodB r bs) (j : Nat) {v : Int} (hv : v ∈ kindsL) : GoodB r (bs.set j v) := by
  refine ⟨by rw [List.length_set]; exact hb.1, fun k hk => ?_⟩
  rcases List.mem_or_eq_of_mem_set hk with z | z
  · exact hb.2 k z
  · rw [z]; exact hv
theorem ixN_nat {n j : Nat} (h : j < n) : ixN n (j : Int) = some j := by
  unfold ixN
  rw [if_pos (by omega), if_pos (by omega), Int.toNat_natCast]
theorem set_ints (p : Addr) (bs : List Int) (j : Nat) (v : Int) (M : MS) : ((p, MO.lst ((bs.map D.int).set j (.int v))) :: M) = (p, MO.lst ((bs.set j v).map .int)) :: M := by rw [List.map_set]
def s_law_bent : SpD := fun ds M Q => ∃ (p : Addr) (kk : Nat) (T : Tn) (n : Nat) (r : List Pt) (bs : List Int), ds = [.ref p, roomD r, intsT bs] ∧ M[kk]? = some (p, T.O) ∧ T.Ok n ∧ n ≤ 10000 ∧ Rm r ∧ GoodB r bs ∧
  ∀ (bs' : List Int) (T' : Tn), GoodB r bs' → T'.Ok (n + 10) → Q (intsT bs') (M.set kk (p, T'.O))
abbrev bentEnv (p : Addr) (r : List Pt) (bs : List Int) (pf : Addr) (o5 o6 o7 o8 : Option D) : EnvD := [some (.ref p), some (roomD r), some (intsT bs), some (.ref pf), some (.tupN ((rimL r).map sqD)), o5, o6, o7, o8]
theorem ok__law_bent_border {X : Cx} (B : Bs X) : Dn X "_law_bent_border" 3 ["_law_tin", "_law_ground", "_law_rim_so"] s_law_bent := by
  refine def_by B 84 69 69 (k := 2) (N := ["_law_tin", "_law_ground", "_law_rim_so", "_law_found", "_law_spots_so", "_law_lap", "_law_k", "_law_kind_so", "_law_its"]) rfl rfl ⟨rfl, rfl, rfl, by decide +kernel, rfl, by decide +kernel, by decide +kernel⟩ (fun _ _ _ _ _ _ us hl => match us, hl with | [_, _, _], _ => rfl) ?len ?body
  case len => rintro _ _ _ ⟨_, _, _, _, _, _, rfl, _⟩; rfl
  case body =>
    rintro X' h B _ M QD ⟨p, kk, T, n, r, bs0, rfl, hM, hT, hn, hr, hb0, q⟩
    have hl := hr.len
    have rl := rimL_len r
    have rpos : 0 < (rimL r).length := List.length_pos_iff.mpr (rim_ne hr)
    rw [← set_same hM]
    refine wss_cons (ws_set h 3 rfl rfl (DO.to (mo := .lst (bs0.map .int)) (do_callTy h rfl B.f_list boot_list (da_cN (de_var h 2 rfl rfl rfl) da_nil) (wc_list .tup fun p => ⟨p, rfl, rfl⟩)) fun pf => ?_))
    refine wss_cons (ws_set h 4 rfl rfl (DE.to (de_call h (okN_law_rim B) rfl (da_cN (de_var h 1 rfl rfl rfl) da_nil) ⟨r, rfl, by omega, rfl, rfl⟩) ?_))
    have gat : ∀ (bs : List Int) (j : Nat), j < bs.length → L2.atI (bs.map D.int) (j : Int) = some (.int (bs.getD j 0)) := fun bs j hj => getD_atI hj
    refine wss_cons (ws_for h (wi_rng1 h rfl B.f_range (wa_cons (we_bin (DE.to de_int (we_take h B rfl (M0 := (pf, .lst (bs0.map .int)) :: M) (kk := kk + 1) hM (de_var h 0 rfl rfl rfl) (below := 2) de_int hT (by omega) (by decide) (by decide) fun r2 T1 hr2 hT1 => wo_add (wa_nil ⟨(1 : Int) + (r2 : Int), rfl, by omega, by omega,
      (fun i ρ' M' => ∃ o5 o6 o7 o8 bs T, ρ' = bentEnv p r bs0 pf o5 o6 o7 o8 ∧ M' = (pf, .lst (bs.map .int)) :: M.set kk (p, Tn.O T) ∧ GoodB r bs ∧ T.Ok (n + 1 + 3 * i)),
      ⟨none, none, none, none, bs0, T1, rfl, rfl, hb0, hT1⟩, fun _ _ _ _ => trivial, ?_, ?_⟩)))))))
    · rintro i d ρ' M' hd ⟨o5, o6, o7, o8, bs, T, rfl, rfl, hb, hT⟩
      have hi2 : i < 2 := by
        have := (List.getElem?_eq_some_iff.mp hd).1
        simp [rngD] at this
        omega
      have hbl := hb.1
      have elen : ((bs.map D.int).length : Int) = (((rimL r).length : Nat) : Int) := by rw [List.length_map, hbl]
      refine wg_name h 5 rfl rfl ?_
      refine wss_cons (ws_set h 6 rfl rfl (we_take h B rfl (M0 := (pf, .lst (bs.map .int)) :: M) (kk := kk + 1) hM (de_var h 0 rfl rfl rfl) (below := (rimL r).length) (DE.as (de_callB h rfl B.f_len boot_len (da_cN (de_var h 3 rfl rfl rfl) da_nil) (wc_len (.ref 0 rfl) ⟨rfl, rfl⟩)) (castS elen)) hT (by omega) rpos (by omega) fun k T2 hk hT2 => ?_))
      have hkb : k < bs.length := by omega
      have hsp : L2.atI ((rimL r).map sqD) (k : Int) = some (sqD ((rimL r).getD k (0, 0))) := L2.atI_nat (by rw [List.getElem?_map, List.getD_eq_getElem?_getD, List.getElem?_eq_getElem hk]; rfl)
      generalize (rimL r).getD k (0, 0) = sp at hsp
      refine wss_one (ws_if (wt_cmp (we_take h B rfl (M0 := (pf, .lst (bs.map .int)) :: M) (kk := kk + 1) hM (de_var h 0 rfl rfl rfl) (below := 3) de_int hT2 (by omega) (by decide) (by decide) fun r3 T3 hr3 hT3 => DE.to de_int (wo_eqi ⟨_, rfl, fun c => ?_, fun c => ?_⟩))))
      · refine wss_one (ws_asg (we_take h B rfl (M0 := (pf, .lst (bs.map .int)) :: M) (kk := kk + 1) hM (de_var h 0 rfl rfl rfl) (below := 5) de_int hT3 (by omega) (by decide) (by decide) fun r5 T4 hr5 hT4 => wg_sub (DE.to (de_var h 3 rfl rfl rfl) (DE.to (de_var h 6 rfl rfl rfl) (wst_list (j := k) 0 rfl (by rw [List.length_map]; exact ixN_nat hkb) ⟨_, _, _, _, bs.set k (r5 : Int), T4, rfl, set_ints _ _ _ _ _, good_set hb k ?_, hT4.le (by omega)⟩)))))
        have : r5 = 0 ∨ r5 = 1 ∨ r5 = 2 ∨ r5 = 3 ∨ r5 = 4 := by omega
        rcases this with rfl | rfl | rfl | rfl | rfl <;> simp [kindsL]
      · refine wss_one (ws_if (DT.to (d := decide (bs.getD k 0 = 0)) (dt_cmp (de_ix (de_var h 3 rfl rfl rfl) (de_var h 6 rfl rfl rfl) (.ref 0 rfl) (gat bs k hkb)) de_int (wo_eqi ⟨rfl, rfl⟩)) ⟨fun c2 => ?_, fun c2 => ?_⟩))
        · refine wss_one (ws_forT h [1, 2] .int (fun t ρ' M' => ∃ o7 o8 bs, ρ' = bentEnv p r bs0 pf (some d) (some (natD k)) o7 o8 ∧ M' = (pf, .lst (bs.map .int)) :: M.set kk (p, Tn.O T3) ∧ GoodB r bs) (fi_tup (de_tup (da_cC de_int (da_cC de_int da_nil))) rfl) ⟨o7, o8, bs, rfl, rfl, hb⟩ ?_ ?_)
          · rintro t kd ρ' M' ht ⟨o7, o8, bs, rfl, rfl, hb⟩
            have hkd : kd = 1 ∨ kd = 2 := by simpa using List.mem_of_getElem? ht
            have hkk : kd ∈ kindsL := by rcases hkd with rfl | rfl <;> simp [kindsL]
            have hkk2 : kd + 2 ∈ kindsL := by rcases hkd with rfl | rfl <;> simp [kindsL]
            have hbl := hb.1
            have hkb : k < bs.length := by omega
            refine wg_name h 7 rfl rfl ?_
            refine wss_cons (ws_set h 8 rfl rfl (DE.to (d := sqD (led sp kd)) (de_call h (ok__law_over B) rfl (da_cons (de_ix (de_var h 4 rfl rfl rfl) (de_var h 6 rfl rfl rfl) .tupN hsp) (da_cons (de_var h 7 rfl rfl rfl) da_nil)) ⟨sp, kd, rfl, hkk, rfl, rfl⟩) ?_))
            generalize led sp kd = its
            have idx : its ∈ rimL r → ∀ (X : Cx) (ρ : EnvD) (M : MS) (h : XOk X _ _ _ _) (o e : Expr) (apos pos : Pos) (ho : DE X o ρ M (.tupN ((rimL r).map sqD)) M) (ha : DE X e ρ M (sqD its) M) (c : Mt1 X o "index" apos e pos), DE X (.Call (.Attribute o "index" apos) [e] [] pos) ρ M (.int (((rimL r).idxOf its : Nat) : Int)) M := fun hm X ρ M h o e apos pos ho ha c => by
              obtain ⟨i1, i2⟩ := idxP hm
              exact de_indexT (N := ["_law_tin", "_law_ground", "_law_rim_so", "_law_found", "_law_spots_so", "_law_lap", "_law_k", "_law_kind_so", "_law_its"]) (sc := defScope (TH.top 84)) (k := 2) (b := true) h ho ha (datB_sq 59 its) (datB_sqs 59 _) (z := sqD its) (by rw [List.getElem?_map, i1]; rfl) (by rw [eqD_sq]; simp) (fun m z' hm' hz => by
                rw [List.getElem?_map] at hz
                cases ey : (rimL r)[m]? with
                | none => rw [ey] at hz; cases hz
                | some y =>
                  rw [ey] at hz
                  cases hz
                  rw [eqD_sq]
                  exact decide_eq_false (i2 m y hm' ey)) c
            have idl : its ∈ rimL r → (rimL r).idxOf its < bs.length := fun hm => by rw [hbl]; exact List.idxOf_lt_length_iff.mpr hm
            refine wss_one (ws_if (DT.to (d := decide (its ∈ rimL r) && (decide (bs.getD ((rimL r).idxOf its) 0 = 0) && decide (bs.getD k 0 = 0))) (DW.dt (dw_and (dt_cmp (de_var h 8 rfl rfl rfl) (de_var h 4 rfl rfl rfl) (wo_in h .id .tupN (datB_sq 59 its) (datB_sqs 59 _) ⟨congrArg D.bl (anyD_sq _ its), rfl⟩)) fun c3 => dw_and (dt_cmp (de_ix (de_var h 3 rfl rfl rfl) (idx (of_decide_eq_true c3) X' _ _ h _ _ _ _ (de_var h 4 rfl rfl rfl) (de_var h 8 rfl rfl rfl) ⟨rfl, rfl, rfl, rfl⟩) (.ref 0 rfl) (gat bs _ (idl (of_decide_eq_true c3)))) de_int (wo_eqi ⟨rfl, rfl⟩)) fun _ => dw_and1 (dt_cmp (de_ix (de_var h 3 rfl rfl rfl) (de_var h 6 rfl rfl rfl) (.ref 0 rfl) (gat bs k hkb)) de_int (wo_eqi ⟨rfl, rfl⟩)))) ⟨fun c3 => ?_, fun c3 => wss_nil ⟨_, _, bs, rfl, rfl, hb⟩⟩))
            have hm : its ∈ rimL r := by
              rw [Bool.and_eq_true] at c3
              exact of_decide_eq_true c3.1
            refine wss_one (ws_asg (DE.to (de_tup (da_cN (de_var h 7 rfl rfl rfl) (da_cB (de_bin (de_var h 7 rfl rfl rfl) de_int (by walk_at "op")) da_nil))) (wg_tup h (wgs_any (wg_sub (DE.to (de_var h 3 rfl rfl rfl) (DE.to (de_var h 6 rfl rfl rfl) (wst_list (j := k) 0 rfl (by rw [List.length_map]; exact ixN_nat hkb) (wgs_any (wg_sub (DE.to (de_var h 3 rfl rfl rfl) (DE.to (idx hm X' _ _ h _ _ _ _ (de_var h 4 rfl rfl rfl) (de_var h 8 rfl rfl rfl) ⟨rfl, rfl, rfl, rfl⟩) (wst_list (j := (rimL r).idxOf its) 0 rfl (by rw [List.length_set, List.length_map]; exact ixN_nat (idl hm)) (wgs_nil ⟨_, _, (bs.set k kd).set ((rimL r).idxOf its) (kd + 2), rfl, ?_, good_set (good_set hb k hkk) _ hkk2⟩))))))))))) rfl)) (hw := h.sw0 fun E e => by cases E; cases e; rfl))
            show (pf, MO.lst _) :: M.set kk (p, T3.O) = _
            rw [List.map_set, List.map_set]
          · rintro ρ' M' ⟨o7, o8, bs, rfl, rfl, hb⟩
            exact ⟨_, _, _, _, bs, T3, rfl, rfl, hb, hT3.le (by omega)⟩
        · have hkk : bs.getD k 0 ∈ kindsL := hb.2 _ (by
            rw [List.getD_eq_getElem?_getD, List.getElem?_eq_getElem hkb]
            exact List.getElem_mem hkb)
          refine wss_cons (ws_set h 8 rfl rfl (DE.to (d := sqD (led sp (bs.getD k 0))) (de_call h (ok__law_over B) rfl (da_cons (de_ix (de_var h 4 rfl rfl rfl) (de_var h 6 rfl rfl rfl) .tupN hsp) (da_cons (de_ix (de_var h 3 rfl rfl rfl) (de_var h 6 rfl rfl rfl) (.ref 0 rfl) (gat bs k hkb)) da_nil)) ⟨sp, _, rfl, hkk, rfl, rfl⟩) ?_))
          generalize led sp (bs.getD k 0) = its
          have h0 : (0 : Int) ∈ kindsL := by simp [kindsL]
          refine wss_cons (ws_asg (DE.to de_int (wg_sub (DE.to (de_var h 3 rfl rfl rfl) (DE.to (de_var h 6 rfl rfl rfl) (wst_list (j := k) 0 rfl (by rw [List.length_map]; exact ixN_nat hkb) ?_))))))
          have e9 := set_ints pf bs k 0 (M.set kk (p, T3.O))
          refine wss_one (ws_if (DT.to (d := decide (its ∈ rimL r)) (dt_cmp (de_var h 8 rfl rfl rfl) (de_var h 4 rfl rfl rfl) (wo_in h .id .tupN (datB_sq 59 its) (datB_sqs 59 _) ⟨congrArg D.bl (anyD_sq _ its), rfl⟩)) ⟨fun c3 => ?_, fun c3 => wss_nil ⟨_, _, _, _, bs.set k 0, T3, rfl, e9, good_set hb k h0, hT3.le (by omega)⟩⟩))
          have hm : its ∈ rimL r := of_decide_eq_true c3
          have idl : (rimL r).idxOf its < bs.length := by rw [hbl]; exact List.idxOf_lt_length_iff.mpr hm
          obtain ⟨i1, i2⟩ := idxP hm
          refine wss_one (ws_asg (DE.to de_int (wg_sub (DE.to (de_var h 3 rfl rfl rfl) (DE.to (de_indexT h (j := (rimL r).idxOf its) (z := sqD its) (de_var h 4 rfl rfl rfl) (de_var h 8 rfl rfl rfl) (datB_sq 59 its) (datB_sqs 59 _) (by rw [List.getElem?_map, i1]; rfl) (by rw [eqD_sq]; simp) (fun m z' hm' hz => ?_)) (wst_list (j := (rimL r).idxOf its) 0 rfl (by rw [List.length_set, List.length_map]; exact ixN_nat idl) ⟨_, _, _, _, (bs.set k 0).set ((rimL r).idxOf its) 0, T3, rfl, ?_, good_set (good_set hb k h0) _ h0, hT3.le (by omega)⟩))))))
          · rw [List.getElem?_map] at hz
            cases ey : (rimL r)[m]? with
            | none => rw [ey] at hz; cases hz
            | some y =>
              rw [ey] at hz
              cases hz
              rw [eqD_sq]
              exact decide_eq_false (i2 m y hm' ey)
          · show (pf, MO.lst _) :: M.set kk (p, T3.O) = _
            rw [List.map_set, List.map_set]
    · rintro ρ' M' ⟨o5, o6, o7, o8, bs, T, rfl, rfl, hb, hT⟩
      have e : (rngD 0 ((1 : Int) + (r2 : Int)).toNat).length ≤ 2 := by simp [rngD]; omega
      exact wss_one (ws_ret (DE.to (d := intsT bs) (M' := (pf, .lst (bs.map .int)) :: M.set kk (p, T.O)) (de_callTy h rfl B.f_tuple boot_tuple (da_cN (de_var h 3 rfl rfl rfl) da_nil) (wc_tuple (.ref 0 rfl) ⟨rfl, rfl⟩)) ⟨_, _, [(pf, _)], rfl, .id, q bs T hb (hT.le (by omega))⟩))
end DL

set_option maxHeartbeats 8000000
/-! walks: _law_right. -/
namespace DL
open PySem PySem.Spec PyProof.Rows L2 Evl

local macro_rules
  | `(tactic| walk_at "op") => `(tactic| first
    | exact wo_add ⟨rfl, rfl⟩ | exact wo_sub ⟨rfl, rfl⟩ | exact wo_lt ⟨rfl, rfl⟩ | exact wo_le ⟨rfl, rfl⟩ | exact wo_gt ⟨rfl, rfl⟩ | exact wo_ge ⟨rfl, rfl⟩
    | exact wo_eqi ⟨rfl, rfl⟩ | exact wo_nei ⟨rfl, rfl⟩ | exact wo_eqb ⟨rfl, rfl⟩ | exact wo_neb ⟨rfl, rfl⟩ | exact wo_isN ⟨rfl, rfl⟩ | exact wo_notN ⟨rfl, rfl⟩)
  | `(tactic| walk_at "sq") => `(tactic| first | exact Sq.tup | exact Sq.lst | exact Sq.tupN | exact Sq.ref _ rfl)
  | `(tactic| walk_at "at") => `(tactic| first | rfl | assumption)
  | `(tactic| walk_at "isi") => `(tactic| first | exact wc_isI (by assumption) ⟨rfl, rfl⟩ | exact wc_isB (by assumption) ⟨rfl, rfl⟩ | exact wc_isT (by assumption) ⟨rfl, rfl⟩ | exact wc_isL (by assumption) ⟨rfl, rfl⟩ | exact wc_isLT (by assumption) ⟨rfl, rfl⟩ | exact wc_isBS (by assumption) ⟨rfl, rfl⟩)
  | `(tactic| walk_at "len") => `(tactic| exact wc_len (by first | exact Sq.tup | exact Sq.lst | exact Sq.tupN | exact Sq.ref _ rfl) ⟨rfl, rfl⟩)
  | `(tactic| walk_at "tuple") => `(tactic| exact wc_tuple (by first | exact Sq.lst | exact Sq.tup | exact Sq.tupN | exact Sq.ref _ rfl) ⟨rfl, rfl⟩)
  | `(tactic| walk_at "all") => `(tactic| exact wc_all (by assumption) (by first | exact SqO.lst | exact SqO.ref _ rfl) ⟨rfl, rfl⟩)

local macro_rules
  | `(tactic| walk_at "is_number") => `(tactic| exact ⟨_, rfl, by assumption, rfl, rfl⟩)
  | `(tactic| walk_at "tupled") => `(tactic| exact ⟨_, rfl, by assumption, rfl, rfl⟩)

section
variable {X : Cx} {ρ : EnvD} {M : MS} {pos : Pos}
theorem wt_ifE {c a d : Expr} {Q : Bool → MS → Prop} (h : WT X c ρ M fun t M1 => (t = true → WT X a ρ M1 Q) ∧ (t = false → WT X d ρ M1 Q)) : WT X (.IfExp c a d pos) ρ M Q := fun σ H at0 Qv l => by
  have hc := h σ H at0 (fun t H1 => if t = true then wpT X a σ H1 Qv else wpT X d σ H1 Qv) fun t M1 H1 ⟨q1, q2⟩ m1 f1 => by
    cases t with
    | true => rw [if_pos rfl]; exact q1 rfl σ H1 (at0.step m1 f1) Qv (l.go f1)
    | false => rw [if_neg Bool.false_ne_true]; exact q2 rfl σ H1 (at0.step m1 f1) Qv (l.go f1)
  unfold wpT at hc ⊢
  intro pins s I
  show wpAny _ _ (do let b ← isTrue c X.env (eval c X.env); if b then isTrue a X.env (eval a X.env) else isTrue d X.env (eval d X.env)) _ _ _
  refine wpAny_bind (wpAny_mono (hc pins s I) (fun t s1 ⟨H1, I1, q1⟩ => ?_) fun _ _ z => z)
  cases t with
  | true =>
    rw [if_pos rfl] at q1
    exact q1 pins s1 I1
  | false =>
    rw [if_neg Bool.false_ne_true] at q1
    exact q1 pins s1 I1
end
theorem eqD_leaf : ∀ {d : D}, (d = .non ∨ (∃ b, d = .bl b) ∨ (∃ i, d = .int i) ∨ ∃ x, d = .str x) → eqD d d = true := by
  rintro d (rfl | ⟨b, rfl⟩ | ⟨i, rfl⟩ | ⟨x, rfl⟩)
  · simp [eqD, toPy, PyData.eqv]
  · simp [eqD, toPy, PyData.eqv]
  · simp [eqD, toPy, PyData.eqv]
  · simp [eqD, toPy, PyData.eqv]
theorem same_zip {n : Nat} : ∀ {l : List D}, (∀ d ∈ l, sameD n d d = true) → ((l.zip l).all fun x => sameD n x.1 x.2) = true
  | [], _ => rfl
  | a :: l, h => by
    rw [List.zip_cons_cons, List.all_cons, h a (by simp), same_zip fun d hd => h d (List.mem_cons_of_mem _ hd)]
    rfl
theorem same_refl : ∀ (n : Nat) (d : D), okD n d = true → sameD n d d = true
  | n, .non, _ => by cases n <;> simp [sameD, isLstD, isTupD, leafD, eqD_leaf (.inl rfl)]
  | n, .bl b, _ => by cases n <;> simp [sameD, isLstD, isTupD, leafD, eqD_leaf (.inr (.inl ⟨b, rfl⟩))]
  | n, .int i, _ => by cases n <;> simp [sameD, isLstD, isTupD, leafD, isIntD, isBlD, eqD_leaf (.inr (.inr (.inl ⟨i, rfl⟩)))]
  | n, .str x, _ => by cases n <;> simp [sameD, isLstD, isTupD, leafD, eqD_leaf (.inr (.inr (.inr ⟨x, rfl⟩)))]
  | n + 1, .tup ds, h => by
    simp only [okD, Bool.and_eq_true, List.all_eq_true] at h
    rw [sameD, same_zip fun d hd => same_refl n d (h.1 d hd)]
    simp
  | n + 1, .lst ds, h => by
    simp only [okD, Bool.and_eq_true, List.all_eq_true] at h
    rw [sameD, same_zip fun d hd => same_refl n d (h.1 d hd)]
    simp
  | 0, .tup _, h => by simp [okD] at h
  | 0, .lst _, h => by simp [okD] at h
  | n, .dic _, h => by cases n <;> simp [okD] at h
  | n, .dik _, h => by cases n <;> simp [okD] at h
  | n, .ref _, h => by cases n <;> simp [okD] at h
  | n, .ty _, h => by cases n <;> simp [okD] at h
  | n, .tupN _, h => by cases n <;> simp [okD] at h
  | n, .lsK _, h => by cases n <;> simp [okD] at h
theorem okD_le : ∀ (n m : Nat) (d : D), n ≤ m → okD n d = true → okD m d = true
  | _, m, .non, _, _ => by cases m <;> rfl
  | _, m, .bl _, _, _ => by cases m <;> rfl
  | _, m, .int _, _, _ => by cases m <;> rfl
  | n, m, .str x, _, h => by cases n <;> cases m <;> (simp only [okD] at h ⊢; exact h)
  | n + 1, m + 1, .tup ds, hm, h => by
    simp only [okD, Bool.and_eq_true, List.all_eq_true] at h ⊢
    exact ⟨fun x hx => okD_le n m x (by omega) (h.1 x hx), h.2⟩
  | n + 1, m + 1, .lst ds, hm, h => by
    simp only [okD, Bool.and_eq_true, List.all_eq_true] at h ⊢
    exact ⟨fun x hx => okD_le n m x (by omega) (h.1 x hx), h.2⟩
  | 0, _, .tup _, _, h => by simp [okD] at h
  | 0, _, .lst _, _, h => by simp [okD] at h
  | n, _, .dic _, _, h => by cases n <;> simp [okD] at h
  | n, _, .dik _, _, h => by cases n <;> simp [okD] at h
  | n, _, .ref _, _, h => by cases n <;> simp [okD] at h
  | n, _, .ty _, _, h => by cases n <;> simp [okD] at h
  | n, _, .tupN _, _, h => by cases n <;> simp [okD] at h
  | n, _, .lsK _, _, h => by cases n <;> simp [okD] at h
theorem okD_room {r : List Pt} (hl : r.length ≤ 1000) : okD 2 (roomD r) = true := by
  simp only [roomD, okD, Bool.and_eq_true, List.all_eq_true, decide_eq_true_eq, List.length_map]
  refine ⟨fun x hx => ?_, hl⟩
  obtain ⟨p, _, rfl⟩ := List.mem_map.mp hx
  simp [okD]
theorem tupD_room (r : List Pt) : tupD (roomD r) = roomD r := by
  simp only [roomD, tupD, tupDs_map, List.map_map]
  congr 1
theorem lst_room (r : List Pt) : lstD (roomD r) = .lst (r.map fun p => .lst [.int p.1, .int p.2]) := by
  simp only [roomD, lstD, lstDs_map, List.map_map]
  congr 1
theorem okD_soft {r : List Pt} (hl : r.length ≤ 1000) : okD 2 (lstD (roomD r)) = true := by
  rw [lst_room]
  simp only [okD, Bool.and_eq_true, List.all_eq_true, decide_eq_true_eq, List.length_map]
  refine ⟨fun x hx => ?_, hl⟩
  obtain ⟨p, _, rfl⟩ := List.mem_map.mp hx
  simp [okD]
theorem tupD_soft (r : List Pt) : tupD (lstD (roomD r)) = roomD r := by
  rw [lst_room]
  simp only [roomD, tupD, tupDs_map, List.map_map]
  congr 1
theorem tupD_intsL (bs : List Int) : tupD (.lst (bs.map .int)) = intsT bs := by
  simp only [tupD, tupDs_map, List.map_map]
  congr 1
theorem tupD_intsT (bs : List Int) : tupD (intsT bs) = intsT bs := by
  simp only [intsT, tupD, tupDs_map, List.map_map]
  congr 1
theorem lst_ints (bs : List Int) : lstD (intsT bs) = .lst (bs.map .int) := by
  simp only [intsT, lstD, lstDs_map, List.map_map]
  congr 1
theorem okD_intsL (n : Nat) {bs : List Int} (h : bs.length ≤ 1000) : okD (n + 1) (.lst (bs.map .int)) = true := by
  simp only [okD, Bool.and_eq_true, List.all_eq_true, decide_eq_true_eq, List.length_map]
  refine ⟨fun x hx => ?_, h⟩
  obtain ⟨p, _, rfl⟩ := List.mem_map.mp hx
  cases n <;> rfl
theorem fl_ints (r : List Pt) (F : Pt → Int) : flD r F = intsT (r.map F) := by
  unfold flD intsT
  rw [List.map_map]
  rfl
theorem hasB_iff {r : List Pt} {bs : List Int} (hb : GoodB r bs) : HasB r (intsT bs) ↔ ∃ F, IsFl r (letF (letsB r bs)) F :=
  ⟨fun ⟨bs', e, _, hF⟩ => by rw [intsT_inj e]; exact hF, fun hF => ⟨bs, rfl, hb, hF⟩⟩
/-! calls at a memory with the draws -/
section
variable {M0 : MS} {kk : Nat} {p : Addr} {x0 : Addr × MO} {T : Tn} {n : Nat} {Q : D → MS → Prop}
theorem room_ask (hM : M0[kk]? = some x0) (hT : T.Ok n) (hn : n ≤ 10000) (q : ∀ (r : List Pt) (T' : Tn), Rm r → r.length ≤ 12 → T'.Ok (n + 50) → Q (roomD r) (M0.set kk (p, T'.O))) : s_law_room [.ref p, .int 12] (M0.set kk (p, T.O)) Q :=
  ⟨p, kk, T, n, rfl, get_set hM _, hT, hn, fun r T' a b c => by rw [List.set_set]; exact q r T' a b c⟩
theorem laid_ask {r : List Pt} (hM : M0[kk]? = some x0) (hT : T.Ok n) (hn : n ≤ 10000) (hr : Rm r) (hl : r.length ≤ 12) (q : ∀ (ks : List Int) (T' : Tn), ks.length = r.length → (∀ k ∈ ks, k ∈ kindsL) → T'.Ok (n + 12) → Q (intsT ks) (M0.set kk (p, T'.O))) : s_law_laid [.ref p, roomD r] (M0.set kk (p, T.O)) Q :=
  ⟨p, kk, T, n, r, rfl, get_set hM _, hT, hn, hr, hl, fun ks T' a b c => by rw [List.set_set]; exact q ks T' a b c⟩
theorem bent_ask {r : List Pt} {bs : List Int} (hM : M0[kk]? = some x0) (hT : T.Ok n) (hn : n ≤ 10000) (hr : Rm r) (hb : GoodB r bs) (q : ∀ (bs' : List Int) (T' : Tn), GoodB r bs' → T'.Ok (n + 10) → Q (intsT bs') (M0.set kk (p, T'.O))) : s_law_bent [.ref p, roomD r, intsT bs] (M0.set kk (p, T.O)) Q :=
  ⟨p, kk, T, n, r, bs, rfl, get_set hM _, hT, hn, hr, hb, fun bs' T' a b => by rw [List.set_set]; exact q bs' T' a b⟩
end
theorem fd_len {r : List Pt} {bs : List Int} (hr : r.length ≤ 16) {L : Lf} {fd : List Stp} (rep : Rep r (letF (letsB r bs)) fd L) : fd.length ≤ 1000 := by
  have h1 := rep.cnt
  have h2 := cnt5 (r := r) (L := letF (letsB r bs)) fun s => (letF_ok (letsB_ok r bs) s).2
  omega
theorem no_falls {r : List Pt} {L0 L : Lf} {F : Pt → Int} {fd : List Stp} (h : IsFl r L0 F) (rep : Rep r L0 fd L) : fallsB r L = false := by
  cases e : fallsB r L with
  | false => rfl
  | true =>
    obtain ⟨s, hs, e⟩ := falls_iff.mp e
    have := (h.rep rep).1 s hs
    rw [e] at this
    cases this
end DL

set_option maxHeartbeats 8000000
/-! walks: _law_right. -/
namespace DL
open PySem PySem.Spec PyProof.Rows L2 Evl

local macro_rules
  | `(tactic| walk_at "op") => `(tactic| first
    | exact wo_add ⟨rfl, rfl⟩ | exact wo_sub ⟨rfl, rfl⟩ | exact wo_lt ⟨rfl, rfl⟩ | exact wo_le ⟨rfl, rfl⟩ | exact wo_gt ⟨rfl, rfl⟩ | exact wo_ge ⟨rfl, rfl⟩
    | exact wo_eqi ⟨rfl, rfl⟩ | exact wo_nei ⟨rfl, rfl⟩ | exact wo_eqb ⟨rfl, rfl⟩ | exact wo_neb ⟨rfl, rfl⟩ | exact wo_isN ⟨rfl, rfl⟩ | exact wo_notN ⟨rfl, rfl⟩)
  | `(tactic| walk_at "sq") => `(tactic| first | exact Sq.tup | exact Sq.lst | exact Sq.tupN | exact Sq.ref _ rfl)
  | `(tactic| walk_at "at") => `(tactic| first | rfl | assumption)
  | `(tactic| walk_at "isi") => `(tactic| first | exact wc_isI (by assumption) ⟨rfl, rfl⟩ | exact wc_isB (by assumption) ⟨rfl, rfl⟩ | exact wc_isT (by assumption) ⟨rfl, rfl⟩ | exact wc_isL (by assumption) ⟨rfl, rfl⟩ | exact wc_isLT (by assumption) ⟨rfl, rfl⟩ | exact wc_isBS (by assumption) ⟨rfl, rfl⟩)
  | `(tactic| walk_at "len") => `(tactic| exact wc_len (by first | exact Sq.tup | exact Sq.lst | exact Sq.tupN | exact Sq.ref _ rfl) ⟨rfl, rfl⟩)
  | `(tactic| walk_at "tuple") => `(tactic| exact wc_tuple (by first | exact Sq.lst | exact Sq.tup | exact Sq.tupN | exact Sq.ref _ rfl) ⟨rfl, rfl⟩)
  | `(tactic| walk_at "all") => `(tactic| exact wc_all (by assumption) (by first | exact SqO.lst | exact SqO.ref _ rfl) ⟨rfl, rfl⟩)

local macro_rules
  | `(tactic| walk_at "is_number") => `(tactic| exact ⟨_, rfl, by assumption, rfl, rfl⟩)
  | `(tactic| walk_at "tupled") => `(tactic| exact ⟨_, rfl, by assumption, rfl, rfl⟩)

theorem okD_two {n : Nat} {x : D} (h : okD n x = true) (b : Bool) : okD (n + 1) (.lst [x, .bl b]) = true := by
  have e : okD n (.bl b) = true := by cases n <;> rfl
  show ((okD n x && (okD n (.bl b) && true)) && decide ((2 : Nat) ≤ 1000)) = true
  rw [h, e]
  rfl
def s_law_right : SpD := fun ds M Q => ∃ (p : Addr) (kk : Nat) (T : Tn), ds = [.ref p] ∧ M[kk]? = some (p, T.O) ∧ T.Ok 0 ∧ ∀ T' : Tn, Q (.bl true) (M.set kk (p, T'.O))
abbrev rightEnv (p : Addr) (r : List Pt) (ks : List Int) (o4 o5 o6 o9 o10 o11 : Option D) : EnvD := [some (.ref p), some (roomD r), some (intsT ks), some (lstD (roomD r)), o4, o5, o6, none, none, o9, o10, o11]
theorem ok__law_right {X : Cx} (B : Bs X) : Dn X "_law_right" 10 ["_law_tin"] s_law_right := by
  refine def_by B 88 73 73 (k := 9) (N := ["_law_tin", "_law_ground", "_law_laid_so", "_law_soft_so", "_law_lap", "_law_row_so", "_law_lets_so", "_law_own", "_law_its", "_law_floors_so", "_law_due", "_law_told"]) rfl rfl ⟨rfl, rfl, rfl, by decide +kernel, rfl, by decide +kernel, by decide +kernel⟩ (fun _ _ _ _ _ _ us hl => match us, hl with | [_], _ => rfl) ?len ?body
  case len => rintro _ _ _ ⟨_, _, _, rfl, _⟩; rfl
  case body =>
    rintro X' h B _ M QD ⟨p, kk, T, rfl, hM, hT, q⟩
    rw [← set_same hM]
    refine wss_cons (ws_set h 1 rfl rfl (we_call h (ok__law_room B) rfl (DA.to (da_cN (de_var h 0 rfl rfl rfl) (da_cC de_int da_nil)) (room_ask hM hT (by omega) fun r T1 hr hl hT1 => ?_))))
    have nd := hr.nd
    have asc := hr.asc
    refine wss_cons (ws_par h 2 3 rfl rfl (by decide) rfl rfl (h.sw0 fun E e => by cases E; cases e; rfl) (we_call h (ok__law_laid B) rfl (DA.to (da_cN (de_var h 0 rfl rfl rfl) (da_cN (de_var h 1 rfl rfl rfl) da_nil)) (laid_ask hM hT1 (by omega) hr hl fun ks T2 hk1 hk2 hT2 => DE.to (de_call h (ok_law_lists 2 B) rfl (da_cN (de_var h 1 rfl rfl rfl) da_nil) ⟨roomD r, rfl, okD_room (by omega), rfl, rfl⟩) ?_))))
    have hbl := bord_good hk1 hk2
    refine wss_cons (ws_forT h (List.range 3) (fun i => .int (i : Int)) (fun i ρ' M' => ∃ o4 o5 o6 o9 o10 o11 T, ρ' = rightEnv p r ks o4 o5 o6 o9 o10 o11 ∧ M' = M.set kk (p, Tn.O T) ∧ T.Ok (n := 62 + 10 * i)) (WI.imp (fi_rng h (I := fun i ρ' M' => True) rfl B.f_range de_int (by decide) (by decide)) fun a c d ⟨e1, e2, e3⟩ => ⟨e1, e2, fun i ρ' M' _ => e3 i ρ' M' trivial⟩) ⟨none, none, none, none, none, none, T2, rfl, rfl, hT2⟩ ?_ ?_)
    · rintro i lap ρ' M' hx ⟨o4, o5, o6, o9, o10, o11, T, rfl, rfl, hT⟩
      have hi : i < 3 := by have := (List.getElem?_eq_some_iff.mp hx).1; simpa using this
      have rl := rimL_len r
      refine wg_name h 4 rfl rfl ?_
      refine wss_cons (ws_set h 5 rfl rfl (we_call h (ok__law_bent_border B) rfl (DA.to (da_cons (de_var h 0 rfl rfl rfl) (da_cons (de_var h 1 rfl rfl rfl) (da_cons (de_call h (ok__law_border B) rfl (da_cN (de_var h 1 rfl rfl rfl) (da_cN (de_var h 2 rfl rfl rfl) da_nil)) ⟨r, ks, rfl, by omega, rfl, rfl⟩) da_nil))) (bent_ask hM hT (by omega) hr hbl fun bs T3 hb hT3 => ?_))))
      have hbsl := hb.1
      refine wss_cons (ws_set h 6 rfl rfl (DE.to (d := letsD (letsB r bs)) (de_callTy h rfl B.f_tuple boot_tuple (da_cons (DO.frz (do_lcM h B ((rimL r).zip bs) (fun x => .tup [sqD x.1, .int x.2]) (fun x => .tup [sqD x.1, .tup [.int x.2]]) [("_law_own", 7), ("_law_its", 8)] (tg_pair h 7 8 rfl rfl rfl rfl (by simp) (by simp)) rfl
        ⟨wi_zp h rfl B.f_zip ((da_cons (de_call h (ok__law_rim B) rfl (da_cN (de_var h 1 rfl rfl rfl) da_nil) ⟨r, rfl, by omega, rfl, rfl⟩) (da_cons (de_var h 5 rfl rfl rfl) da_nil)).to ⟨_, _, _, _, rfl, .tup, .tup, zp_typed _ _, fun _ => ⟨.tup, .tup⟩, rfl⟩), by
          rw [List.length_zip]; omega, fun x hx => ⟨_, rfl, fun X' ⟨h, B, _⟩ m => (de_tup (da_cN (de_var h 7 rfl rfl rfl) (da_cT (de_tup (da_cN (de_var h 8 rfl rfl rfl) da_nil)) da_nil)))⟩⟩)) da_nil) (wc_tupleN .lst ⟨by rw [← letsB_D], rfl⟩)) ?_))
      have one := rows_one asc nd bs hb.1
      have ll := letsB_len (r := r) (bs := bs)
      have okT : okD 1 (intsT bs) = true := okD_ints 0 (by omega)
      have okL : okD 1 (.lst (bs.map .int)) = true := okD_intsL 0 (by omega)
      refine wss_cons (ws_set h 9 rfl rfl (DE.to (d := .lst ((rowsK r (letF (letsB r bs)) r.length).map intsT)) (de_call h (ok__law_floors B) rfl (da_cN (de_var h 1 rfl rfl rfl) (da_cN (de_var h 6 rfl rfl rfl) da_nil)) ⟨r, letsB r bs, rfl, hr, hl, by omega, one, rfl, rfl⟩) ?_))
      rcases Classical.em (∃ F, IsFl r (letF (letsB r bs)) F) with ⟨F, hF⟩ | hno
      · -- a floor
        have hmem := (rows_fl (L := letF (letsB r bs)) asc nd F).mpr hF
        have er : rowsK r (letF (letsB r bs)) r.length = [r.map F] := by
          generalize rowsK r (letF (letsB r bs)) r.length = rows at one hmem
          match rows, one, hmem with
          | [a], _, hm => rw [List.mem_singleton.mp hm]
        have same : ∀ F', IsFl r (letF (letsB r bs)) F' → flD r F' = intsT (r.map F) := fun F' hF' => by
          have := (rows_fl (L := letF (letsB r bs)) asc nd F').mpr hF'
          rw [er] at this
          rw [fl_ints, List.mem_singleton.mp this]
        rw [er]
        have ne1 : (!eqD (D.lst ([r.map F].map intsT)) (D.lst [])) = true := by rw [eqD_nil]; rfl
        refine wss_cons (ws_set h 10 rfl rfl (we_ifE (DT.to (d := true) (DT.as (dt_cmp (de_var h 9 rfl rfl rfl) (do_lst da_nil).frz (wo_neD h .id .id (by show datB 60 (.lst [intsT (r.map F)]) = true; simp only [datB, List.all_cons, List.all_nil, Bool.and_true]; exact datB_intsT 58 _) rfl ⟨rfl, rfl⟩)) ne1) ⟨fun _ => DE.to (d := intsT (r.map F)) (de_ix (de_var h 9 rfl rfl rfl) de_int .lst rfl) ?_, fun c => (nomatch c)⟩)))
        have okx : okD 2 (.lst [intsT (r.map F), .bl true]) = true := okD_two (okD_ints 0 (by rw [List.length_map]; omega)) true
        refine wss_cons (ws_if (DT.to (d := false) (DT.as (DW.dt (dw_or (dt_cmp (de_callB h rfl B.f_len boot_len (da_cN (de_var h 9 rfl rfl rfl) da_nil) (wc_len .lst ⟨rfl, rfl⟩)) de_int (wo_gt ⟨rfl, rfl⟩)) fun _ => dw_or1 (dt_not (dt_val (de_call h (ok_law_same 2 (by decide) B) rfl (da_cons (d := .lst [intsT (r.map F), .bl true]) (DE.as (DO.frz (do_lst (da_cons (d := intsT (r.map F)) (de_call h (ok__law_heard B) rfl (da_cC de_int (da_cN (de_var h 3 rfl rfl rfl) (da_cN (de_var h 5 rfl rfl rfl) da_nil))) ⟨lstD (roomD r), intsT bs, .inl ⟨rfl, lstD (roomD r), intsT bs, r, bs, rfl, okD_soft (by omega), tupD_soft r, hr, okT, tupD_intsT bs, hb, fun F' hF' => ⟨same F' hF', rfl⟩, fun no => absurd hF (no F)⟩⟩) (da_cons (d := .bl true) (we_callK h (okK_is_border B) rfl swp_rp (wk_cons (DE.to (de_var h 5 rfl rfl rfl) (wk_cons (DE.to (de_var h 1 rfl rfl rfl) (wk_nil ⟨rfl, roomD r, intsT bs, r, rfl, okD_room (by omega), tupD_room r, hr, okD_le 1 2 _ (by decide) okT, fun b hb' => ⟨congrArg D.bl (hb'.mpr ((hasB_iff hb).mpr ⟨F, hF⟩)), rfl⟩⟩)))))) da_nil)))) rfl)
          (da_cons (d := .lst [intsT (r.map F), .bl true]) (DE.as (DO.frz (do_lst (da_cons (de_var h 10 rfl rfl rfl) (da_cons (d := .bl true) (DE.as (de_cmp (de_var h 9 rfl rfl rfl) (do_lst da_nil).frz (wo_neD h .id .id (by show datB 60 (.lst [intsT (r.map F)]) = true; simp only [datB, List.all_cons, List.all_nil, Bool.and_true]; exact datB_intsT 58 _) rfl ⟨rfl, rfl⟩)) (congrArg D.bl ne1)) da_nil)))) rfl) da_nil)) ⟨_, _, rfl, okx, okx, rfl, rfl⟩))))) (by rw [same_refl 2 _ okx]; rfl)) ⟨fun c => (nomatch c), fun _ => wss_nil ?_⟩))
        refine wss_cons (ws_set h 11 rfl rfl (DE.to (d := cnD) (de_call h (ok__law_heard B) rfl (da_cons de_int (da_cons (de_var h 1 rfl rfl rfl) (da_cons (DE.as (d' := .lst (bs.map .int)) (de_call h (ok_law_lists 1 B) rfl (da_cN (de_var h 5 rfl rfl rfl) da_nil) ⟨intsT bs, rfl, okT, rfl, rfl⟩) (lst_ints bs)) da_nil))) ⟨roomD r, .lst (bs.map .int), .inr ⟨rfl, roomD r, .lst (bs.map .int), r, bs, rfl, okD_room (by omega), tupD_room r, hr, okL, tupD_intsL bs, hb, fun L fd rep st => ⟨fun c => absurd ((no_falls hF rep).symm.trans c) Bool.false_ne_true, fun c => ⟨rfl, rfl⟩⟩⟩⟩) ?_))
        refine wss_one (ws_if (wt_not (wt_ifE (DT.to (d := true) (DT.as (dt_cmp (de_var h 9 rfl rfl rfl) (do_lst da_nil).frz (wo_neD h .id .id (by show datB 60 (.lst [intsT (r.map F)]) = true; simp only [datB, List.all_cons, List.all_nil, Bool.and_true]; exact datB_intsT 58 _) rfl ⟨rfl, rfl⟩)) ne1) ⟨fun _ => wt_val (DE.to (d := .bl true) (DE.as (de_call h (ok_law_same 2 (by decide) B) rfl (da_cN (de_var h 11 rfl rfl rfl) (da_cL (do_lst (da_cC de_str (da_cC de_bl da_nil))).frz da_nil)) ⟨cnD, cnD, rfl, cn_ok, cn_ok, rfl, rfl⟩) (congrArg D.bl cn_same)) ⟨true, rfl, fun c => (nomatch c), fun _ => wss_nil ⟨_, _, _, _, _, _, T3, rfl, rfl, hT3.le (by omega)⟩⟩), fun c => (nomatch c)⟩))))
      · -- none
        have no : ∀ F, ¬ IsFl r (letF (letsB r bs)) F := fun F hF => hno ⟨F, hF⟩
        have er : rowsK r (letF (letsB r bs)) r.length = [] := by
          rw [List.eq_nil_iff_forall_not_mem]
          intro row hrow
          obtain ⟨F, _, hF⟩ := rows_all asc nd hrow
          exact no F hF
        rw [er]
        have ne0 : (!eqD (D.lst (([] : List (List Int)).map intsT)) (D.lst [])) = false := by rw [eqD_nil]; rfl
        have okx : okD 2 (.lst [cnD, .bl false]) = true := by decide +kernel
        refine wss_cons (ws_set h 10 rfl rfl (we_ifE (DT.to (d := false) (DT.as (dt_cmp (de_var h 9 rfl rfl rfl) (do_lst da_nil).frz (wo_neD h .id .id rfl rfl ⟨rfl, rfl⟩)) ne0) ⟨fun c => (nomatch c), fun _ => DE.to (d := cnD) (DE.as (do_lst (da_cC de_str (da_cC de_bl da_nil))).frz rfl) ?_⟩)))
        refine wss_cons (ws_if (DT.to (d := false) (DT.as (DW.dt (dw_or (dt_cmp (de_callB h rfl B.f_len boot_len (da_cN (de_var h 9 rfl rfl rfl) da_nil) (wc_len .lst ⟨rfl, rfl⟩)) de_int (wo_gt ⟨rfl, rfl⟩)) fun _ => dw_or1 (dt_not (dt_val (de_call h (ok_law_same 2 (by decide) B) rfl (da_cons (d := .lst [cnD, .bl false]) (DE.as (DO.frz (do_lst (da_cons (d := cnD) (de_call h (ok__law_heard B) rfl (da_cC de_int (da_cN (de_var h 3 rfl rfl rfl) (da_cN (de_var h 5 rfl rfl rfl) da_nil))) ⟨lstD (roomD r), intsT bs, .inl ⟨rfl, lstD (roomD r), intsT bs, r, bs, rfl, okD_soft (by omega), tupD_soft r, hr, okT, tupD_intsT bs, hb, fun F' hF' => absurd hF' (no F'), fun _ => ⟨rfl, rfl⟩⟩⟩) (da_cons (d := .bl false) (we_callK h (okK_is_border B) rfl swp_rp (wk_cons (DE.to (de_var h 5 rfl rfl rfl) (wk_cons (DE.to (de_var h 1 rfl rfl rfl) (wk_nil ⟨rfl, roomD r, intsT bs, r, rfl, okD_room (by omega), tupD_room r, hr, okD_le 1 2 _ (by decide) okT, fun b hb' => ⟨congrArg D.bl (by cases b with | false => rfl | true => exact absurd ((hasB_iff hb).mp (hb'.mp rfl)) hno), rfl⟩⟩)))))) da_nil)))) rfl)
          (da_cons (d := .lst [cnD, .bl false]) (DE.as (DO.frz (do_lst (da_cons (de_var h 10 rfl rfl rfl) (da_cons (d := .bl false) (DE.as (de_cmp (de_var h 9 rfl rfl rfl) (do_lst da_nil).frz (wo_neD h .id .id rfl rfl ⟨rfl, rfl⟩)) (congrArg D.bl ne0)) da_nil)))) rfl) da_nil)) ⟨_, _, rfl, okx, okx, rfl, rfl⟩))))) (by rw [same_refl 2 _ okx]; rfl)) ⟨fun c => (nomatch c), fun _ => wss_nil ?_⟩))
        refine wss_cons (ws_set h 11 rfl rfl (we_call h (ok__law_heard B) rfl (DA.to (da_cons de_int (da_cons (de_var h 1 rfl rfl rfl) (da_cons (DE.as (d' := .lst (bs.map .int)) (de_call h (ok_law_lists 1 B) rfl (da_cN (de_var h 5 rfl rfl rfl) da_nil) ⟨intsT bs, rfl, okT, rfl, rfl⟩) (lst_ints bs)) da_nil))) ⟨roomD r, .lst (bs.map .int), .inr ⟨rfl, roomD r, .lst (bs.map .int), r, bs, rfl, okD_room (by omega), tupD_room r, hr, okL, tupD_intsL bs, hb, fun L fd rep st => ⟨fun c => ?b1, fun c => ?b2⟩⟩⟩)))
        case b1 =>
          refine wss_one (ws_if (wt_not (wt_ifE (DT.to (d := false) (DT.as (dt_cmp (de_var h 9 rfl rfl rfl) (do_lst da_nil).frz (wo_neD h .id .id rfl rfl ⟨rfl, rfl⟩)) ne0) ⟨fun c => (nomatch c), fun _ => wt_val (DE.to (d := .bl true) (de_call h (ok__law_barred_right B) rfl (da_cN (de_var h 1 rfl rfl rfl) (da_cN (de_var h 5 rfl rfl rfl) (da_cN (de_var h 6 rfl rfl rfl) (da_cN (de_var h 11 rfl rfl rfl) da_nil)))) ⟨r, bs, _, _, L, fd, rfl, hr, hb, rep, st, fd_len (by omega) rep, fun _ => rfl, fun z => absurd (c.symm.trans z) (fun w => (nomatch w)), rfl, rfl⟩) ⟨true, rfl, fun c => (nomatch c), fun _ => wss_nil ⟨_, _, _, _, _, _, T3, rfl, rfl, hT3.le (by omega)⟩⟩)⟩))))
        case b2 =>
          refine wss_one (ws_if (wt_not (wt_ifE (DT.to (d := false) (DT.as (dt_cmp (de_var h 9 rfl rfl rfl) (do_lst da_nil).frz (wo_neD h .id .id rfl rfl ⟨rfl, rfl⟩)) ne0) ⟨fun c => (nomatch c), fun _ => wt_val (DE.to (d := .bl true) (de_call h (ok__law_barred_right B) rfl (da_cN (de_var h 1 rfl rfl rfl) (da_cN (de_var h 5 rfl rfl rfl) (da_cN (de_var h 6 rfl rfl rfl) (da_cN (de_var h 11 rfl rfl rfl) da_nil)))) ⟨r, bs, _, _, L, fd, rfl, hr, hb, rep, st, fd_len (by omega) rep, fun z => absurd (c.symm.trans z) (fun w => (nomatch w)), fun _ => rfl, rfl, rfl⟩) ⟨true, rfl, fun c => (nomatch c), fun _ => wss_nil ⟨_, _, _, _, _, _, T3, rfl, rfl, hT3.le (by omega)⟩⟩)⟩))))
    · rintro ρ' M' ⟨o4, o5, o6, o9, o10, o11, T, rfl, rfl, hT⟩
      exact wss_one (ws_ret (DE.to de_bl (.now (q T))))
end DL

set_option maxHeartbeats 8000000
/-! walks: _law_by_hand_right, law. -/
namespace DL
open PySem PySem.Spec PyProof.Rows L2 Evl

local macro_rules
  | `(tactic| walk_at "op") => `(tactic| first
    | exact wo_add ⟨rfl, rfl⟩ | exact wo_sub ⟨rfl, rfl⟩ | exact wo_lt ⟨rfl, rfl⟩ | exact wo_le ⟨rfl, rfl⟩ | exact wo_gt ⟨rfl, rfl⟩ | exact wo_ge ⟨rfl, rfl⟩
    | exact wo_eqi ⟨rfl, rfl⟩ | exact wo_nei ⟨rfl, rfl⟩ | exact wo_eqb ⟨rfl, rfl⟩ | exact wo_neb ⟨rfl, rfl⟩ | exact wo_isN ⟨rfl, rfl⟩ | exact wo_notN ⟨rfl, rfl⟩)
  | `(tactic| walk_at "sq") => `(tactic| first | exact Sq.tup | exact Sq.lst | exact Sq.tupN | exact Sq.ref _ rfl)
  | `(tactic| walk_at "at") => `(tactic| first | rfl | assumption)
  | `(tactic| walk_at "isi") => `(tactic| first | exact wc_isI (by assumption) ⟨rfl, rfl⟩ | exact wc_isB (by assumption) ⟨rfl, rfl⟩ | exact wc_isT (by assumption) ⟨rfl, rfl⟩ | exact wc_isL (by assumption) ⟨rfl, rfl⟩ | exact wc_isLT (by assumption) ⟨rfl, rfl⟩ | exact wc_isBS (by assumption) ⟨rfl, rfl⟩)
  | `(tactic| walk_at "len") => `(tactic| exact wc_len (by first | exact Sq.tup | exact Sq.lst | exact Sq.tupN | exact Sq.ref _ rfl) ⟨rfl, rfl⟩)
  | `(tactic| walk_at "tuple") => `(tactic| exact wc_tuple (by first | exact Sq.lst | exact Sq.tup | exact Sq.tupN | exact Sq.ref _ rfl) ⟨rfl, rfl⟩)
  | `(tactic| walk_at "all") => `(tactic| exact wc_all (by assumption) (by first | exact SqO.lst | exact SqO.ref _ rfl) ⟨rfl, rfl⟩)

local macro_rules
  | `(tactic| walk_at "is_number") => `(tactic| exact ⟨_, rfl, by assumption, rfl, rfl⟩)
  | `(tactic| walk_at "tupled") => `(tactic| exact ⟨_, rfl, by assumption, rfl, rfl⟩)

theorem kinds_of_hasB {r : List Pt} {e : D} (h : HasB r e) : kindsD (rimL r).length e = true := by
  obtain ⟨bs, rfl, gb, _⟩ := h
  exact kindsD_good gb
def hallR : List Pt := boxL 3 3
def boxR : List Pt := boxL 4 4
theorem asc_dec : ∀ l : List Pt, (∀ i, i < l.length → ∀ j, j < l.length → i < j → (l.getD i (0, 0)).1 < (l.getD j (0, 0)).1 ∨ ((l.getD i (0, 0)).1 = (l.getD j (0, 0)).1 ∧ (l.getD i (0, 0)).2 < (l.getD j (0, 0)).2)) → l.Pairwise ltP' := fun l h => by
  rw [List.pairwise_iff_getElem]
  intro i j hi hj hij
  have := h i hi j hj hij
  rw [List.getD_eq_getElem?_getD, List.getD_eq_getElem?_getD, List.getElem?_eq_getElem hi, List.getElem?_eq_getElem hj] at this
  exact this
theorem hall_rm : Rm hallR := ⟨by decide +kernel, by decide +kernel, asc_dec _ (by decide +kernel), by decide +kernel⟩
theorem box_rm : Rm boxR := ⟨by decide +kernel, by decide +kernel, asc_dec _ (by decide +kernel), by decide +kernel⟩
def zerosB : List Int := [0, 0, 0, 0, 0, 0, 0, 0]
def wheelB : List Int := [1, 2, 4, 3, 1, 2, 4, 3]
def boxB : List Int := [1, 1, 1, 1, 3, 3, 1, 1, 3, 3, 3, 3]
theorem zeros_good : GoodB hallR zerosB := ⟨by decide +kernel, by decide +kernel⟩
theorem wheel_good : GoodB hallR wheelB := ⟨by decide +kernel, by decide +kernel⟩
theorem boxB_good : GoodB boxR boxB := ⟨by decide +kernel, by decide +kernel⟩
theorem no_fl {r : List Pt} (hr : Rm r) {L : Lf} (e : rowsK r L r.length = []) (F : Pt → Int) : ¬ IsFl r L F := fun h => by
  have := (rows_fl (L := L) hr.asc hr.nd F).mpr h
  rw [e] at this
  cases this
theorem zeros_none : ∀ F, ¬ IsFl hallR (letF (letsB hallR zerosB)) F := no_fl hall_rm (by decide +kernel)
theorem box_none : ∀ F, ¬ IsFl boxR (letF (letsB boxR boxB)) F := no_fl box_rm (by decide +kernel)
theorem wheel_some : ∃ F, IsFl hallR (letF (letsB hallR wheelB)) F := by
  have h : rowsK hallR (letF (letsB hallR wheelB)) hallR.length ≠ [] := by decide +kernel
  obtain ⟨row, hrow⟩ := List.exists_mem_of_ne_nil _ h
  obtain ⟨F, _, hF⟩ := rows_all hall_rm.asc hall_rm.nd hrow
  exact ⟨F, hF⟩
theorem zip_zero {α : Type} (f : Pt × Int → α) (g : Pt → α) (h : ∀ p, f (p, 0) = g p) : ∀ (l : List Pt) (n : Nat), n = l.length → (l.zip (List.replicate n 0)).map f = l.map g
  | [], n, e => by simp
  | p :: l, n, e => by
    subst e
    rw [List.length_cons, List.replicate_succ, List.zip_cons_cons, List.map_cons, List.map_cons, h, zip_zero f g h l _ rfl]
def thingsL : List D := [intsT [1, 2, 4, 3, 1, 2, 4], intsT [1, 2, 4, 3, 1, 2, 4, 3, 0], intsT [1, 2, 4, 3, 1, 2, 4, 5], .tup [.bl true, .int 2, .int 4, .int 3, .int 1, .int 2, .int 4, .int 3], .non, .tup [], .int 5, .tup (List.replicate 8 [D.tup [.int 1]]).flatten]
theorem things_ok : (thingsL.all fun d => okD 2 d && !kindsD 8 d) = true := by decide +kernel
def gotD : D := .lst ([cnD, .bl false, .bl false, cnD, cnD] ++ List.replicate 8 (.bl false))
theorem got_ok : okD 2 gotD = true := by decide +kernel
def s_law_hand : SpD := fun ds M Q => ds = [] ∧ Q (.bl true) M
theorem ok__law_by_hand_right {X : Cx} (B : Bs X) : Dn X "_law_by_hand_right" 10 [] s_law_hand := by
  refine def_by B 87 72 72 (k := 9) (N := ["_law_hall_so", "_law_box_so", "_law_got", "_law_due", "_law_things_so", "_law_own", "_law_rim_so", "_law_lets_so"]) rfl rfl ⟨rfl, rfl, rfl, by decide +kernel, rfl, by decide +kernel, by decide +kernel⟩ (fun _ _ _ _ _ _ us hl => match us, hl with | [], _ => rfl) ?len ?body
  case len => rintro _ _ _ ⟨rfl, _⟩; rfl
  case body =>
    rintro X' h B _ M QD ⟨rfl, q⟩
    have rl8 : (rimL hallR).length = 8 := by decide +kernel
    have okZ : okD 1 (intsT zerosB) = true := by decide +kernel
    have okW : okD 1 (intsT wheelB) = true := by decide +kernel
    have okB : okD 1 (intsT boxB) = true := by decide +kernel
    have okH : okD 2 (roomD hallR) = true := by decide +kernel
    have okX : okD 2 (roomD boxR) = true := by decide +kernel
    refine wss_cons (ws_asg (DE.to (de_tup (da_cons (d := roomD hallR) (de_call h (ok__law_boxed B) rfl (da_cC de_int (da_cC de_int da_nil)) ⟨3, 3, rfl, by decide, by decide, rfl, rfl⟩) (da_cons (d := roomD boxR) (de_call h (ok__law_boxed B) rfl (da_cC de_int (da_cC de_int da_nil)) ⟨4, 4, rfl, by decide, by decide, rfl, rfl⟩) da_nil))) (wg_tup h (wgs_cons h 0 rfl rfl (wgs_cons h 1 rfl rfl (wgs_nil ?_))) rfl)) (hw := h.sw0 fun E e => by cases E; cases e; rfl))
    have bor : ∀ e : D, okD 2 e = true → (¬ HasB hallR e) → ∀ M : MS, s_is_border [roomD hallR, e] M fun d' M2 => d' = .bl false ∧ M2 = M := fun e h1 h2 M => ⟨roomD hallR, e, hallR, rfl, okH, tupD_room _, hall_rm, h1, fun b hb => ⟨by cases b with | false => rfl | true => exact absurd (hb.mp rfl) h2, rfl⟩⟩
    have nz : ¬ HasB hallR (intsT zerosB) := fun z => by
      obtain ⟨F, hF⟩ := (hasB_iff zeros_good).mp z
      exact zeros_none F hF
    have nk : ∀ e : D, kindsD 8 e = false → ¬ HasB hallR e := fun e h z => by
      have := kinds_of_hasB z
      rw [rl8, h] at this
      cases this
    refine wss_cons (ws_set h 2 rfl rfl (DE.to (d := .lst [cnD, .bl false, .bl false]) (DE.as (DO.frz (do_lst (da_cons (d := cnD) (de_call h (ok__law_heard B) rfl (da_cons de_int (da_cons (de_var h 0 rfl rfl rfl) (da_cons (d := intsT zerosB) (DE.as (de_bin (de_tup (da_cC de_int da_nil)) de_int (wo_repT (by simp) (by simp) (by decide) ⟨rfl, rfl⟩)) rfl) da_nil))) ⟨roomD hallR, intsT zerosB, .inl ⟨rfl, _, _, hallR, zerosB, rfl, okH, tupD_room _, hall_rm, okZ, tupD_intsT _, zeros_good, fun F hF => absurd hF (zeros_none F), fun _ => ⟨rfl, rfl⟩⟩⟩)
      (da_cons (d := .bl false) (de_call h (ok_is_border B) rfl (da_cons (de_var h 0 rfl rfl rfl) (da_cons (d := intsT zerosB) (DE.as (de_bin (de_tup (da_cC de_int da_nil)) de_int (wo_repT (by simp) (by simp) (by decide) ⟨rfl, rfl⟩)) rfl) da_nil)) (bor _ (okD_le 1 2 _ (by decide) okZ) nz _))
      (da_cons (d := .bl false) (de_call h (ok_is_border B) rfl (da_cons (de_var h 0 rfl rfl rfl) (da_cons (d := .lst (wheelB.map .int)) (DE.as (do_lst (da_cC de_int (da_cC de_int (da_cC de_int (da_cC de_int (da_cC de_int (da_cC de_int (da_cC de_int (da_cC de_int da_nil))))))))).frz rfl) da_nil)) (bor _ (by decide +kernel) (nk _ (by decide +kernel)) _)) da_nil))))) rfl) ?_))
    refine wss_cons (ws_set h 2 rfl rfl (DE.to (d := .lst [cnD, .bl false, .bl false, cnD, cnD]) (DE.as (DO.frz (do_bin (de_var h 2 rfl rfl rfl) (DO.frz (do_lst (da_cons (d := cnD) (de_call h (ok__law_heard B) rfl (da_cons de_int (da_cons (de_var h 0 rfl rfl rfl) (da_cons (d := intsT wheelB) (DE.as (de_tup (da_cC de_int (da_cC de_int (da_cC de_int (da_cC de_int (da_cC de_int (da_cC de_int (da_cC de_int (da_cC de_int da_nil))))))))) rfl) da_nil))) ⟨roomD hallR, intsT wheelB, .inr ⟨rfl, _, _, hallR, wheelB, rfl, okH, tupD_room _, hall_rm, okW, tupD_intsT _, wheel_good, fun L fd rep st => ⟨fun c => (by
        obtain ⟨F, hF⟩ := wheel_some
        rw [no_falls hF rep] at c
        cases c), fun c => ⟨rfl, rfl⟩⟩⟩⟩)
      (da_cons (d := cnD) (de_call h (ok__law_heard B) rfl (da_cons de_int (da_cons (de_var h 1 rfl rfl rfl) (da_cons (d := intsT boxB) (DE.as (de_tup (da_cC de_int (da_cC de_int (da_cC de_int (da_cC de_int (da_cC de_int (da_cC de_int (da_cC de_int (da_cC de_int (da_cC de_int (da_cC de_int (da_cC de_int (da_cC de_int da_nil))))))))))))) rfl) da_nil))) ⟨roomD boxR, intsT boxB, .inl ⟨rfl, _, _, boxR, boxB, rfl, okX, tupD_room _, box_rm, okB, tupD_intsT _, boxB_good, fun F hF => absurd hF (box_none F), fun _ => ⟨rfl, rfl⟩⟩⟩) da_nil)))) (wo_cat .lst .lst (by simp) fun p => ⟨p, rfl, rfl⟩))) rfl) ?_))
    refine wss_cons (ws_set h 3 rfl rfl (DE.to (d := .lst [cnD, .bl false, .bl false, cnD, cnD]) (DE.as (do_lst (da_cL (do_lst (da_cC de_str (da_cC de_bl da_nil))).frz (da_cC de_bl (da_cC de_bl (da_cL (do_lst (da_cC de_str (da_cC de_bl da_nil))).frz (da_cL (do_lst (da_cC de_str (da_cC de_bl da_nil))).frz da_nil)))))).frz rfl) ?_))
    refine wss_cons (ws_set h 4 rfl rfl (DE.to (d := .lst thingsL) (DE.as (DO.frz (do_lst (da_cons (de_tup (da_cC de_int (da_cC de_int (da_cC de_int (da_cC de_int (da_cC de_int (da_cC de_int (da_cC de_int da_nil)))))))) (da_cons (de_tup (da_cC de_int (da_cC de_int (da_cC de_int (da_cC de_int (da_cC de_int (da_cC de_int (da_cC de_int (da_cC de_int (da_cC de_int da_nil)))))))))) (da_cons (de_tup (da_cC de_int (da_cC de_int (da_cC de_int (da_cC de_int (da_cC de_int (da_cC de_int (da_cC de_int (da_cC de_int da_nil))))))))) (da_cons (de_tup (da_cC de_bl (da_cC de_int (da_cC de_int (da_cC de_int (da_cC de_int (da_cC de_int (da_cC de_int (da_cC de_int da_nil))))))))) (da_cons de_non (da_cons (de_tup da_nil) (da_cons de_int (da_cons (de_bin (de_tup (da_cT (de_tup (da_cC de_int da_nil)) da_nil)) de_int (wo_repT (by simp) (by simp) (by decide) ⟨rfl, rfl⟩)) da_nil)))))))))) rfl) ?_))
    have tho : ∀ d ∈ thingsL, okD 2 d = true ∧ kindsD 8 d = false := fun d hd => by
      have := List.all_eq_true.mp things_ok d hd
      simpa using this
    refine wss_cons (ws_set h 2 rfl rfl (DE.to (d := gotD) (DE.as (DO.frz (do_bin (de_var h 2 rfl rfl rfl) (DO.frz (do_lcM h B thingsL id (fun _ => .bl false) [("_law_own", 5)] (tg_name h 5 rfl rfl (by simp)) rfl ⟨wi_lstE (de_var h 4 rfl rfl rfl) (by simp), by decide, fun d hd => ⟨_, rfl, fun X' ⟨h, B, _⟩ m => de_call h (ok_is_border B) rfl (da_cN (de_var h 0 rfl rfl rfl) (da_cN (de_var h 5 rfl rfl rfl) da_nil)) (bor d (tho d hd).1 (nk d (tho d hd).2) _)⟩⟩)) (wo_cat .lst .lst (by decide) fun p => ⟨p, rfl, rfl⟩))) rfl) ?_))
    refine wss_cons (ws_if (DT.to (d := false) (DT.as (dt_not (dt_val (de_call h (ok_law_same 2 (by decide) B) rfl (da_cons (de_var h 2 rfl rfl rfl) (da_cons (d := gotD) (DE.as (DO.frz (do_bin (de_var h 3 rfl rfl rfl) (DO.frz (do_bin (do_lst (da_cC de_bl da_nil)).frz de_int (wo_rep .lst (by decide) (by decide) fun p => ⟨p, rfl, rfl⟩))) (wo_cat .lst .lst (by decide) fun p => ⟨p, rfl, rfl⟩))) rfl) da_nil)) ⟨gotD, gotD, rfl, got_ok, got_ok, rfl, rfl⟩))) (by rw [same_refl 2 _ got_ok]; rfl)) ⟨fun c => (nomatch c), fun _ => wss_nil ?_⟩))
    refine wss_cons (ws_set h 6 rfl rfl (DE.to (d := .tup ((rimL hallR).map sqD)) (de_call h (ok__law_rim B) rfl (da_cN (de_var h 0 rfl rfl rfl) da_nil) ⟨hallR, rfl, by decide +kernel, rfl, rfl⟩) ?_))
    have el : D.tupN ((rimL hallR).map fun p => .tup [sqD p, .tup [.int 0]]) = letsD (letsB hallR zerosB) := by
      show _ = D.tupN _
      rw [letsB_D]
      exact congrArg D.tupN (zip_zero (fun x => D.tup [sqD x.1, .tup [.int x.2]]) (fun p => .tup [sqD p, .tup [.int 0]]) (fun p => rfl) (rimL hallR) 8 rl8.symm).symm
    refine wss_cons (ws_set h 7 rfl rfl (DE.to (d := letsD (letsB hallR zerosB)) (DE.as (de_callTy h rfl B.f_tuple boot_tuple (da_cons (DO.frz (do_lcM h B (rimL hallR) sqD (fun p => .tup [sqD p, .tup [.int 0]]) [("_law_own", 5)] (tg_name h 5 rfl rfl (by simp)) rfl ⟨wi_tupE (de_var h 6 rfl rfl rfl) rfl, by rw [rl8]; decide, fun p hp => ⟨_, rfl, fun X' ⟨h, B, _⟩ m => (de_tup (da_cN (de_var h 5 rfl rfl rfl) (da_cT (de_tup (da_cC de_int da_nil)) da_nil)))⟩⟩)) da_nil) (wc_tupleN .lst ⟨rfl, rfl⟩)) el) ?_))
    have hl9 : hallR.length ≤ 16 := by decide +kernel
    exact wss_one (ws_ret (we_call h (ok__law_barred_right B) rfl (wa_cons (DE.to (de_var h 0 rfl rfl rfl) (wa_cons (DE.to (DE.as (d' := intsT zerosB) (de_bin (de_tup (da_cC de_int da_nil)) de_int (wo_repT (by simp) (by simp) (by decide) ⟨rfl, rfl⟩)) rfl) (wa_cons (DE.to (de_var h 7 rfl rfl rfl) (wa_cons (we_call h (ok__law_heard B) rfl (DA.to (da_cons de_int (da_cons (de_var h 0 rfl rfl rfl) (da_cons (DE.as (d' := intsT zerosB) (de_bin (de_tup (da_cC de_int da_nil)) de_int (wo_repT (by simp) (by simp) (by decide) ⟨rfl, rfl⟩)) rfl) da_nil))) ⟨roomD hallR, intsT zerosB, .inr ⟨rfl, _, _, hallR, zerosB, rfl, okH, tupD_room _, hall_rm, okZ, tupD_intsT _, zeros_good, fun L fd rep st =>
      ⟨fun c => wa_nil ⟨hallR, zerosB, _, _, L, fd, rfl, hall_rm, zeros_good, rep, st, fd_len hl9 rep, fun _ => rfl, fun z => absurd (c.symm.trans z) (fun w => (nomatch w)), .now q⟩, fun c => wa_nil ⟨hallR, zerosB, _, _, L, fd, rfl, hall_rm, zeros_good, rep, st, fd_len hl9 rep, fun z => absurd (c.symm.trans z) (fun w => (nomatch w)), fun _ => rfl, .now q⟩⟩⟩⟩)))))))))))
def s_law : SpD := fun ds M Q => ∃ xs : List Int, ds = [.lsK (xs.map .int)] ∧ xs.length ≤ 63 ∧ Q (.bl true) M
theorem ok_lawF {X : Cx} (B : Bs X) {fd : FuncData} (F : FunD X.K "law" "law" (defArgs (TH.top 89)) (defBody (TH.top 89)) (defScope (TH.top 89)) [] [] (He.ga X.K "law") fd) : FnOk X.prog X.w X.K X.mg X.base CX0 11 (He.ga X.K "law") fd ["_law_script"] (spD (gx X) s_law) := by
  refine fn_okD (k := 10) (N := ["_law_script", "_law_cells_so", "_law_k"]) F ⟨rfl, rfl, rfl, by decide +kernel, rfl, by decide +kernel, by decide +kernel⟩ B.toT ?len ?body
  case len => rintro _ _ _ ⟨_, rfl, _⟩; rfl
  case body =>
    rintro X' h B _ M QD ⟨xs, rfl, hl, q⟩
    refine wss_cons (ws_if (DT.to (d := false) (DT.as (dt_not (dt_val (we_call0 h (ok__law_by_hand_right B) rfl ⟨rfl, rfl, rfl⟩))) rfl) ⟨fun c => (nomatch c), fun _ => wss_nil ?_⟩))
    refine wss_cons (ws_set h 1 rfl rfl (we_call h (ok__law_cells B) rfl (DA.to (da_cN (de_var h 0 rfl rfl rfl) (da_cC de_int da_nil)) ⟨xs, rfl, hl, fun p cs hcs => ?_⟩)))
    have cl : cs.length ≤ 2 := by omega
    refine wss_one (ws_ret (DE.to (d := .bl true) (DE.as (de_all h B (l0 := List.range cs.length) (c := fun _ => true) rfl (do_lcM h B (List.range cs.length) (fun i => .int (i : Int)) (fun _ => .bl true) [("_law_k", 2)] (tg_name h 2 rfl rfl (by simp)) rfl
      ⟨wi_rngE h rfl B.f_range (DE.as (d' := .int (cs.length : Int)) (de_callB h rfl B.f_len boot_len (da_cN (de_var h 1 rfl rfl rfl) da_nil) (wc_len (.ref 0 rfl) ⟨rfl, rfl⟩)) (by rw [List.length_map])) (by omega) (by omega) (by simp), by simp; omega, fun k hk => ⟨_, rfl, fun X' ⟨h, B, _⟩ m => ?_⟩⟩) rfl) (by rw [List.all_eq_true.mpr fun _ _ => rfl])) ⟨_, _, [(p, _)], rfl, .id, q⟩))
    have hk2 := List.mem_range.mp hk
    exact we_rtn (we_call h (ok__law_right B) rfl (wa_cons (we_call h (ok__law_box B) rfl (DA.to (da_cN (de_var h 1 rfl rfl rfl) (da_cN (de_var h 2 rfl rfl rfl) da_nil)) ⟨_, cs, k, rfl, .ref 1 rfl, by omega, fun p2 T hT => wa_nil ⟨p2, 0, T, rfl, rfl, hT, fun T' => ⟨.bl true, _, [(p2, T'.O)], rfl, .id, rfl, rfl⟩⟩⟩))))
end DL

set_option maxHeartbeats 8000000
/-! the end: the law's def over the head. -/
namespace DL
open PySem PySem.Spec PyProof.Rows L2 Evl

def cx0 (P : Program) (w : World) (K : PySem.W.Frag) (mg : Str → Option Value) (base : Heap) : Cx :=
  { prog := P, w := w, K := K, mg := mg, base := base, A := callerA, N := [], s_0 := {}, H_0 := fun _ => none, env := default, outer := [], stack := [], ex := [], fn := fun _ => true, calm := true, pn := [], xe := fun _ _ => False }
theorem law_facts {P : Program} {w : World} {K : PySem.W.Frag} {h : Heap} {mg : Str → Option Value} {f : Addr} (KX : K.In h) (G : h.Ns mainGlobals mg) (hfa : mg ("law" : Str) = some (.ref f)) (c : He.SaysD TH.fa TH.fn K) (ex : TH.exB K = true) :
    ∃ fd : FuncData, (∀ (s : Shared) (u : Value), BindsTo s fd ⟨[u], []⟩ [("_law_script", u)]) ∧ ∀ base : Heap, FnOk P w K mg base CX0 11 f fd ["_law_script"] (spD ⟨P, w, K⟩ s_law) := by
  obtain ⟨fd, F⟩ := c.def_ 74 (d := TH.dD "law" 89) rfl
  have F' : FunD K "law" "law" (defArgs (TH.top 89)) (defBody (TH.top 89)) (defScope (TH.top 89)) [] [] (He.ga K "law") fd := F
  have e := hfa.symm.trans (He.glo_ok KX G (c.fact 74 (f := .glo "law") rfl))
  cases e
  have b := FunD.bindsA (ps := ["_law_script"]) F' fun _ _ _ _ _ _ us hl => match us, hl with | [_], _ => rfl
  exact ⟨fd, fun s v => b s [v] rfl, fun base => ok_lawF (X := cx0 P w K mg base) ⟨c, ex, h, KX, G⟩ F'⟩
theorem law_ask {P : Program} {w : World} {K : PySem.W.Frag} (H : Hp) (a : Addr) (ns : List Int) (hl : ns.length ≤ 63) (hS : SqL K H a (ns.map V.int)) : spD ⟨P, w, K⟩ s_law [.ref a] H (fun v _ => v = .bl true) fun _ _ _ => False := by
  have e : hid (adr ([] : MS)) H = H := by
    funext b
    simp [hid, adr]
  refine ⟨[.lsK (ns.map .int)], [], fun d _ => d = .bl true, ?_, ⟨List.nodup_nil, fun x hx => by cases hx⟩, ⟨ns, rfl, hl, rfl⟩, fun v d M' H' q m f r => ?_⟩
  · rw [e]
    exact .cons (.lsK hS (ints_rp ns)) .nil
  · subst q
    cases r
    rfl
end DL
open PySem PySem.W PySem.Calls PyProof.Rows
theorem PySem.Challenge.cw_tatamirooms_k14_whole_bent_borders_read_holds : PySem.Challenge.rw_tatamirooms_k14_whole_bent_borders_read.Holds := by
  w_on; o_law
  refine HandSHeadRun.head_any (r := OpenLaw.row PySem.Challenge.rw_tatamirooms_k14_whole_bent_borders_read) (q := view (OpenLaw.row PySem.Challenge.rw_tatamirooms_k14_whole_bent_borders_read).prog [89]) (H := TH.hk) (ob := TH.ob) (M := 3000) (loose := TH.names) (d := HandSHeadRun.topDef (OpenLaw.row PySem.Challenge.rw_tatamirooms_k14_whole_bent_borders_read).prog 89) (kwd := []) TH.ob_eq
    (by kernel_rfl) (fun s => by kernel_rfl) TH.run (by kernel_rfl) (by kernel_rfl) (by kernel_rfl) (by rfl) (by first | assumption | decide +kernel) (by decide +kernel) ⟨rfl, rfl, rfl, rfl, rfl, by decide +kernel⟩ ?hw ?hc
  case hw => w_witness2
  case hc =>
    refine L2.walk_ofE (l := PySem.Challenge.rw_tatamirooms_k14_whole_bent_borders_read) (n := 63) (k := 11) (x := "_law_script") (CX := L2.CX0) rfl (by decide) (by kernel_rfl) ⟨rfl, by decide, by decide⟩ ?F (fun _ _ _ _ z => z)
    intro w mg fa h Y G hmg0
    obtain ⟨K, KX, c⟩ := Y
    have hmg : mg ("law" : PySem.Str) = some (.ref fa) := by
      have e : (HandSHeadRun.topDef (OpenLaw.row PySem.Challenge.rw_tatamirooms_k14_whole_bent_borders_read).prog 89).name = ("law" : PySem.Str) := by kernel_rfl
      rw [← e]
      exact hmg0
    obtain ⟨fd, hb, hF⟩ := DL.law_facts (P := (PySem.Challenge.rw_tatamirooms_k14_whole_bent_borders_read).prog) (w := w) KX G hmg c.t.d c.more
    exact ⟨K, fd, _, KX, hb, fun H a ns hl _ hS => DL.law_ask H a ns hl hS, fun base _ _ => hF base⟩

