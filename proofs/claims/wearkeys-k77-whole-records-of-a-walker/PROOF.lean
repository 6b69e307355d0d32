import PyProof.Rows.All
import Wide.All
import OpenK.AllK
import Wide.FinOn
import KE.KStateDown
import HandS.ForMost
import HandS.Defaults
import HandS.ExcIs
import HandS.TryOnly
import HandS.ExcOwn
import HandS.Lambda
import HandS.EndBits
import HandS.EndTab
import HandS.CallRecv
import HandS.Head0
import HandS.Head1
import HandS.Head2
import HandS.HeadEnd
import HandS.HeadHook1
import HandS.HeadHook2
import HandS.HeadHook3
import HandS.HeadHook4
import HandS.HeadWalk
import HandS.Walk
import HandS.Zip
import HandS.IsInst
import HandS.TupAny
import HandS.Conv
import KE.GoesNew
import HandS.TupMul
import HandS.DictTup
import HandS.Iter
import KE.SortData
import KE.KDictPairs
import KE.KDictZip
import HandS.Keys
import HandS.DictComp
import HandS.Style
import HandS.HotCalls
import HandS.Deep
import PySem.Challenge.RW_wearkeys_k77_whole_records_of_a_walker
/-! WKHead -/
set_option Elab.async false
set_option linter.all false
set_option maxRecDepth 100000
set_option maxHeartbeats 0
namespace WK
open PySem PySem.Spec PyProof.Rows L2
abbrev prog : Program := PySem.Challenge.pw_wearkeys_k77_whole_records_of_a_walker
def top (i : Nat) : Stmt := prog.main.body.getD i (.Pass ⟨0, 0, 0, 0⟩)
def dG (x : Str) (i : Nat) : He.DefD := ⟨(x, none), x, x, defArgs (top i), defBody (top i), defScope (top i), [], []⟩
def dM (c x q : Str) (st : Stmt) : He.DefD := ⟨(c, some x), x, q, defArgs st, defBody st, defScope st, [], []⟩
/-! the defs that the law reaches -/
def fn0 : List He.DefD := [dG "is_whole" 28, dG "is_among" 29, dG "are_some" 30, dG "rises" 31, dG "is_height" 32, dG "is_key_by" 33, dG "is_gap" 34, dG "is_box_by" 35, dG "whole_box" 36, dG "keys_in" 38, dG "moved_end" 39, dG "filled_from" 40, dG "is_greatest" 41, dG "greatest_by" 42, dG "is_wear" 55, dG "is_door" 56, dG "are_doors" 57, dG "is_smith" 58, dG "are_benches" 59, dG "are_smiths" 60]
def fn1 : List He.DefD := [dG "is_house" 61, dG "need_house" 62, dG "is_hall" 63, dG "need_hall" 64, dG "is_stand" 65, dG "need_stand" 66, dG "is_deed" 67, dG "all_deeds" 69, dG "door_at" 70, dG "smith_at" 71, dG "is_away" 72, dG "hall_behind" 73, dG "wear_of" 74, dG "gap_of" 75, dG "bar_of" 76, dG "done_by" 77, dG "is_shut" 82, dG "is_seen" 83, dG "is_entry" 84, dG "need_record" 85]
def fn2 : List He.DefD := [dG "against" 86, dG "all_against" 87, dG "fitting" 88, dG "lots_of" 89, dG "clash" 90, dG "need_row" 92, dG "bar_at" 93, dG "behind_by" 94, dG "_law_cell_at" 99, dG "_law_pen" 100, dG "_law_draw" 101, dG "_law_pick" 102, dG "_law_marks_of" 103, dG "_law_word" 104, dG "_law_said" 105, dG "_law_key" 106, dG "_law_box" 107, dG "_law_house" 108, dG "_law_stand" 109, dG "_law_door" 110]
def fn3 : List He.DefD := [dG "_law_behind" 111, dG "_law_in" 112, dG "_law_two" 113, dG "_law_entry" 114, dG "_law_fits" 115, dG "_law_otherwise" 116, dG "_law_less" 117, dG "law" 118]
def fnW : List He.DefD := [dM "Walker" "__init__" "Walker.__init__" (inClass (top 97) 0), dM "Walker" "turn" "Walker.turn" (inClass (top 97) 1), dM "Walker" "play" "Walker.play" (inClass (top 97) 6), dM "Walker" "stand" "Walker.stand" (inClass (top 97) 8), dM "Walker" "may" "Walker.may" (inClass (top 97) 11)]
def fn : List He.DefD := fn0 ++ fn1 ++ fn2 ++ fn3 ++ fnW
def gl0 : List He.Fa := [.glo "is_whole", .glo "is_among", .glo "are_some", .glo "rises", .glo "is_height", .glo "is_key_by", .glo "is_gap", .glo "is_box_by", .glo "whole_box", .glo "keys_in", .glo "moved_end", .glo "filled_from", .glo "is_greatest", .glo "greatest_by", .glo "is_wear", .glo "is_door", .glo "are_doors", .glo "is_smith", .glo "are_benches", .glo "are_smiths"]
def gl1 : List He.Fa := [.glo "is_house", .glo "need_house", .glo "is_hall", .glo "need_hall", .glo "is_stand", .glo "need_stand", .glo "is_deed", .glo "all_deeds", .glo "door_at", .glo "smith_at", .glo "is_away", .glo "hall_behind", .glo "wear_of", .glo "gap_of", .glo "bar_of", .glo "done_by", .glo "is_shut", .glo "is_seen", .glo "is_entry", .glo "need_record"]
def gl2 : List He.Fa := [.glo "against", .glo "all_against", .glo "fitting", .glo "lots_of", .glo "clash", .glo "need_row", .glo "bar_at", .glo "behind_by", .glo "_law_cell_at", .glo "_law_pen", .glo "_law_draw", .glo "_law_pick", .glo "_law_marks_of", .glo "_law_word", .glo "_law_said", .glo "_law_key", .glo "_law_box", .glo "_law_house", .glo "_law_stand", .glo "_law_door"]
def gl3 : List He.Fa := [.glo "_law_behind", .glo "_law_in", .glo "_law_two", .glo "_law_entry", .glo "_law_fits", .glo "_law_otherwise", .glo "_law_less", .glo "law", .glo "WearError", .glo "NoTeeth", .glo "NoKey", .glo "NoBox", .glo "NoBoxes", .glo "NoKeys", .glo "NoHouse", .glo "NoStand", .glo "NoDeed", .glo "Barred", .glo "NoRow", .glo "NoHall"]
def gl4 : List He.Fa := [.glo "NotLaid", .glo "NotRound", .glo "NoTimes", .glo "NoGoal", .glo "NoGoals", .glo "NoCoins", .glo "NotPlain", .glo "NoRecord", .glo "NothingDone", .glo "NoText", .glo "NoLine", .glo "Walker"]
def frf : List He.Fa := [.free "isinstance", .free "int", .free "bool", .free "tuple", .free "str", .free "len", .free "all", .free "any", .free "zip", .free "list", .free "dict", .free "sorted", .free "range", .free "enumerate", .free "max", .free "min", .free "ValueError"]
def cof : List He.Fa := [.int "MOST_HEIGHT" 6, .int "MOST_TEETH" 3, .int "MOST_HALLS" 6, .int "MOST_LETTERS" 6, .int "MOST_WEAR" 3, .int "MOST_DOORS" 10, .int "MOST_PRICE" 9, .str "GO" "go", .str "FILE" "file", .str "LIFT" "lift", .str "AWAY" "away", .str "LOW" "low", .str "HIGH" "high", .int "MOST_ENTRIES" 12, .str "SHUT" "shut", .str "SEEN" "seen"]
def waf : List He.Fa := [.cls "Walker", .mkr "Walker", .meth "Walker" "turn", .meth "Walker" "play", .meth "Walker" "stand", .meth "Walker" "may", .noat "Walker" "house", .noat "Walker" "begin", .noat "Walker" "here", .noat "Walker" "kept", .noat "Walker" "past", .exc "Barred", .exm "Barred" "WearError" true]
def fa : List He.Fa := gl0 ++ gl1 ++ gl2 ++ gl3 ++ gl4 ++ frf ++ cof ++ waf
/-! what isinstance asks of a caught Barred -/
def exB (K : PySem.W.Frag) : Bool :=
  He.eqO (PySem.W.findIn K (.ref (He.ga K "Barred")) "__getattribute__") (some (some (.builtin "BaseException.__getattribute__"))) &&
  (He.eqO (PySem.W.findIn K (.ref (He.ga K "Barred")) "__getattr__") (some none) &&
  (decide (PySem.W.subIn K (.ref (He.ga K "Barred")) (.type "BaseException") = some true) &&
  (PySem.W.hasDictIn K (He.ga K "Barred") &&
  (He.eqO (PySem.W.findIn K (.ref (He.ga K "Barred")) "__class__") (some (some (.builtin "object.__class__"))) &&
  (He.eqO (PySem.W.specialIn K (.builtin "object.__class__") "__get__") (some (some (.builtin "getset_descriptor.__get__"))) &&
  (decide (PySem.W.takesIn K (.builtin "object.__class__") = some true) &&
  (decide (PySem.W.mroIn K (He.ga K "Barred") (.type "object") = some true) &&
  (decide (PySem.W.kitOne K (.ref (He.ga K "Barred")) (.type "ValueError") = some true) &&
  ([("NoTeeth", false), ("NoKey", false), ("NoBox", false), ("NoBoxes", false), ("NoKeys", false), ("NoHouse", false), ("NoStand", false), ("NoDeed", false), ("Barred", true), ("NoRow", false), ("NoHall", false), ("NotLaid", false), ("NotRound", false), ("NoTimes", false), ("NoGoal", false), ("NoGoals", false), ("NoCoins", false), ("NotPlain", false), ("NoRecord", false), ("NothingDone", false), ("NoText", false), ("NoLine", false)] : List (Str × Bool)).all fun c => decide (PySem.W.kitOne K (.ref (He.ga K "Barred")) (.ref (He.ga K c.1)) = some c.2)))))))))
abbrev R : PySem.W.OpenRow := PySem.W.OpenLaw.row PySem.Challenge.rw_wearkeys_k77_whole_records_of_a_walker
def tfs : List He.Defn := [("_law_fits", none)]
/-! the part of the heap that is looked at: what the module's names stand for, the code of its defs, the namespaces of its classes, their methods and the code of these -/
def refsY (o : Obj) : List Addr := match o.data with
  | .func fd => He.refV fd.code
  | .cls cd => [cd.ns]
  | .dict es _ => es.toList.flatMap fun e => He.refV e.val
  | _ => []
def stepY (g : Addr → Option Obj) (as : List Addr) : List Addr := as.flatMap fun a => match g a with
  | some o => refsY o
  | none => []
def asY (g : Addr → Option Obj) : List Addr := mainGlobals :: (stepY g [mainGlobals] ++ (stepY g (stepY g [mainGlobals]) ++ (stepY g (stepY g (stepY g [mainGlobals])) ++ stepY g (stepY g (stepY g (stepY g [mainGlobals]))))))
abbrev AlY : Type := He.AlD × Bool
def obsY (g : Addr → Option Obj) : AlY := (He.obsD fa fn (He.frT g (asY g)), exB (He.frT g (asY g)) && He.tabsB g tfs (He.frT g (asY g)))
/-- what the head leaves, as the walk uses it -/
structure SaysY (h : Heap) (K : PySem.W.Frag) : Prop where
  d : He.SaysD fa fn K
  ex : exB K = true
  hd : ∀ p ∈ tfs, PySem.W.codeHdIn K (He.cT K p).1 (He.cT K p).2 = true
  out : ∀ p ∈ tfs, K.lookup (He.cT K p).2 = none
  emp : ∀ p ∈ tfs, h.get? (He.cT K p).2 = some { cls := .none, data := .fields #[] }
theorem saysY_of {h : Heap} (e : obsY h.get? = (He.valD fn, true)) : SaysY h (He.frT h.get? (asY h.get?)) := by
  have e1 : He.obsD fa fn (He.frT h.get? (asY h.get?)) = He.valD fn := congrArg Prod.fst e
  have e2 : (exB (He.frT h.get? (asY h.get?)) && He.tabsB h.get? tfs (He.frT h.get? (asY h.get?))) = true := congrArg Prod.snd e
  obtain ⟨a1, a2⟩ := Bool.and_eq_true_iff.mp e2
  have step : ∀ p ∈ tfs, PySem.W.codeHdIn (He.frT h.get? (asY h.get?)) (He.cT (He.frT h.get? (asY h.get?)) p).1 (He.cT (He.frT h.get? (asY h.get?)) p).2 = true ∧ ∃ o, h.get? (He.cT (He.frT h.get? (asY h.get?)) p).2 = some o ∧ He.emptyTab o = true := by
    intro p hp
    obtain ⟨b1, b2⟩ := Bool.and_eq_true_iff.mp (List.all_eq_true.mp a2 p hp)
    refine ⟨b1, ?_⟩
    cases hq : h.get? (He.cT (He.frT h.get? (asY h.get?)) p).2 with
    | none =>
      rw [hq] at b2
      exact Bool.noConfusion b2
    | some o =>
      rw [hq] at b2
      exact ⟨o, rfl, b2⟩
  refine ⟨e1, a1, fun p hp => (step p hp).1, fun p hp => ?_, fun p hp => ?_⟩
  · obtain ⟨_, o, q, z⟩ := step p hp
    exact He.frT_none q z
  · obtain ⟨_, o, q, z⟩ := step p hp
    rw [He.emptyTab_eq z] at q
    exact q
def hk : PySem.W.Hook where
  α := AlY
  obs := fun s => obsY s.heap.get?
  val := fun _ => (He.valD fn, true)
  says := fun _ h => ∃ K : PySem.W.Frag, K.In h ∧ SaysY h K
  of := fun _ s e => ⟨_, He.frT_in, saysY_of e⟩
  keeps := fun _ _ _ ⟨K, hK, c⟩ k => ⟨K, PySem.W.Frag.In.keeps hK k, ⟨c.d, c.ex, c.hd, c.out, fun p hp => k _ _ (c.emp p hp)⟩⟩
def ob (s : PySem.W.SharedT) : AlY := obsY (HandSHeadRun.getT s)
theorem ob_eq (s : PySem.W.SharedT) : ob s = hk.obs s.abs := by
  have e : HandSHeadRun.getT s = s.abs.heap.get? := funext (HandSHeadRun.getT_eq s)
  show obsY (HandSHeadRun.getT s) = obsY s.abs.heap.get?
  rw [e]
def lo0 : List PySem.Str := ["_wall", "WearError", "NoTeeth", "NoKey", "NoBox", "NoBoxes", "NoKeys", "NoHouse", "NoStand", "NoDeed", "Barred", "NoRow", "NoHall", "NotLaid", "NotRound", "NoTimes", "NoGoal", "NoGoals", "NoCoins", "NotPlain", "NoRecord", "NothingDone", "NoText", "NoLine", "MOST_HEIGHT", "MOST_TEETH", "is_whole", "is_among", "are_some", "rises"]
def lo1 : List PySem.Str := ["is_height", "is_key_by", "is_gap", "is_box_by", "whole_box", "keys_in", "moved_end", "filled_from", "is_greatest", "greatest_by", "MOST_HALLS", "MOST_LETTERS", "MOST_WEAR", "MOST_DOORS", "MOST_PRICE", "GO", "FILE", "LIFT", "AWAY", "LOW", "HIGH", "is_wear", "is_door", "are_doors", "is_smith", "are_benches", "are_smiths", "is_house", "need_house", "is_hall"]
def lo2 : List PySem.Str := ["need_hall", "is_stand", "need_stand", "is_deed", "need_deed", "all_deeds", "door_at", "smith_at", "is_away", "hall_behind", "wear_of", "gap_of", "bar_of", "done_by", "MOST_ENTRIES", "SHUT", "SEEN", "is_shut", "is_seen", "is_entry", "need_record", "against", "all_against", "fitting", "lots_of", "clash", "need_row", "bar_at", "behind_by", "coins_by"]
def lo3 : List PySem.Str := ["Walker", "_law_cell_at", "_law_pen", "_law_draw", "_law_pick", "_law_marks_of", "_law_word", "_law_said", "_law_key", "_law_box", "_law_house", "_law_stand", "_law_door", "_law_behind", "_law_in", "_law_two", "_law_entry", "_law_fits", "_law_otherwise", "_law_less"]
def loose : List PySem.Str := lo0 ++ lo1 ++ lo2 ++ lo3
theorem run (w : World) : HandSHeadRun.RunEq R (PySem.W.view R.prog [118]) hk ob 60000 loose w := by
  intro os
  kernel_rfl
end WK
/-! WKDat -/
set_option Elab.async false
set_option linter.all false
set_option maxRecDepth 100000
set_option maxHeartbeats 1000000
/-! Data in the abstract heap, and readings told by data: what an expression gives is told as plain data. -/
namespace WK
open PySem PySem.Spec PyProof.Rows L2

/-! ### data -/
mutual
inductive Rp (H : Hp) : V → PyData → Prop
  | non : Rp H .non .none
  | bl (b : Bool) : Rp H (.bl b) (.bool b)
  | int (i : Int) : Rp H (.int i) (.int i)
  | str (x : Str) : Rp H (.str x) (.str x)
  | tup {a : Addr} {xs : List V} {ds : List PyData} : H a = some (.tup xs) → RpA H xs ds → Rp H (.ref a) (.tuple ds)
inductive RpA (H : Hp) : List V → List PyData → Prop
  | nil : RpA H [] []
  | cons {v : V} {vs : List V} {d : PyData} {ds : List PyData} : Rp H v d → RpA H vs ds → RpA H (v :: vs) (d :: ds)
end
/-- all stays -/
def Ex (H H' : Hp) : Prop := ∀ b o, H b = some o → H' b = some o
/-- the tuples stay -/
def TLe (H H' : Hp) : Prop := ∀ a xs, H a = some (.tup xs) → H' a = some (.tup xs)
theorem Ex.refl (H : Hp) : Ex H H := fun _ _ h => h
theorem Ex.trans {H H1 H2 : Hp} (a : Ex H H1) (b : Ex H1 H2) : Ex H H2 := fun x o h => b x o (a x o h)
theorem Ex.t {H H' : Hp} (e : Ex H H') : TLe H H' := fun a xs h => e a _ h
theorem Ex.new {H : Hp} {p : Addr} {o : HO} (h : H p = none) : Ex H (upd H p o) := fun a u e => by
  rw [upd_ne (ne_of_none e h)]
  exact e
theorem Ex.back {H H' : Hp} {p : Addr} (e : Ex H H') (h : H' p = none) : H p = none := by
  cases q : H p with
  | none => rfl
  | some o =>
    rw [e p o q] at h
    cases h
theorem TLe.refl (H : Hp) : TLe H H := fun _ _ h => h
theorem TLe.trans {H H1 H2 : Hp} (a : TLe H H1) (b : TLe H1 H2) : TLe H H2 := fun x o h => b x o (a x o h)
/-- what is no tuple may change -/
theorem TLe.upd {H : Hp} {p : Addr} {o : HO} (h : ∀ xs, H p ≠ some (.tup xs)) : TLe H (upd H p o) := fun a xs e => by
  by_cases z : a = p
  · rw [z] at e
    exact absurd e (h xs)
  · rw [upd_ne z]
    exact e
mutual
theorem Rp.mono {H H' : Hp} (e : TLe H H') : ∀ {v : V} {d : PyData}, Rp H v d → Rp H' v d
  | _, _, .non => .non
  | _, _, .bl b => .bl b
  | _, _, .int i => .int i
  | _, _, .str x => .str x
  | _, _, .tup h r => .tup (e _ _ h) (RpA.mono e r)
theorem RpA.mono {H H' : Hp} (e : TLe H H') : ∀ {vs : List V} {ds : List PyData}, RpA H vs ds → RpA H' vs ds
  | _, _, .nil => .nil
  | _, _, .cons h r => .cons (Rp.mono e h) (RpA.mono e r)
end
theorem RpA.len {H : Hp} : ∀ {vs : List V} {ds : List PyData}, RpA H vs ds → vs.length = ds.length
  | _, _, .nil => rfl
  | _, _, .cons _ r => congrArg Nat.succ r.len
theorem RpA.get {H : Hp} : ∀ {vs : List V} {ds : List PyData} {i : Nat} {d : PyData}, RpA H vs ds → ds[i]? = some d → ∃ v, vs[i]? = some v ∧ Rp H v d
  | _, _, _, _, .nil, h => by simp at h
  | _, _, 0, _, .cons q _, h => by
    simp at h
    subst h
    exact ⟨_, rfl, q⟩
  | _, _, i + 1, d, .cons _ r, h => by
    obtain ⟨v, e, q⟩ := RpA.get (i := i) (d := d) r (by simpa using h)
    exact ⟨v, by simpa using e, q⟩
theorem RpA.at {H : Hp} : ∀ {vs : List V} {ds : List PyData} {i : Nat} {v : V}, RpA H vs ds → vs[i]? = some v → ∃ d, ds[i]? = some d ∧ Rp H v d
  | _, _, _, _, .nil, h => by simp at h
  | _, _, 0, _, .cons q _, h => by
    simp at h
    subst h
    exact ⟨_, rfl, q⟩
  | _, _, i + 1, d, .cons _ r, h => by
    obtain ⟨v, e, q⟩ := RpA.at (i := i) r (by simpa using h)
    exact ⟨v, by simpa using e, q⟩
theorem RpA.app {H : Hp} : ∀ {vs us : List V} {ds es : List PyData}, RpA H vs ds → RpA H us es → RpA H (vs ++ us) (ds ++ es)
  | _, _, _, _, .nil, s => s
  | _, _, _, _, .cons q r, s => .cons q (RpA.app r s)
theorem RpA.snoc {H : Hp} {vs : List V} {ds : List PyData} {v : V} {d : PyData} (r : RpA H vs ds) (q : Rp H v d) : RpA H (vs ++ [v]) (ds ++ [d]) := r.app (.cons q .nil)
theorem RpA.take {H : Hp} : ∀ {vs : List V} {ds : List PyData} (n : Nat), RpA H vs ds → RpA H (vs.take n) (ds.take n)
  | _, _, 0, _ => .nil
  | _, _, _ + 1, .nil => .nil
  | _, _, n + 1, .cons q r => .cons q (RpA.take n r)
theorem RpA.drop {H : Hp} : ∀ {vs : List V} {ds : List PyData} (n : Nat), RpA H vs ds → RpA H (vs.drop n) (ds.drop n)
  | _, _, 0, r => r
  | _, _, _ + 1, .nil => .nil
  | _, _, n + 1, .cons _ r => RpA.drop n r
/-! as the == of the layer reads data -/
mutual
theorem Rp.dp {K : PySem.W.Frag} {H : Hp} : ∀ {v : V} {d : PyData}, Rp H v d → Dp K H v d
  | _, _, .non => .non
  | _, _, .bl b => .bl b
  | _, _, .int i => .int i
  | _, _, .str x => .str x
  | _, _, .tup h r => .tup (SqT.of h) (RpA.dp r)
theorem RpA.dp {K : PySem.W.Frag} {H : Hp} : ∀ {vs : List V} {ds : List PyData}, RpA H vs ds → DpAll K H vs ds
  | _, _, .nil => .nil
  | _, _, .cons h r => .cons h.dp r.dp
end

/-! ### what is known of the names: nothing, data, the very value -/
inductive Sl where
  | un
  | d (x : PyData)
  | v (x : V)
def SlOk (H : Hp) : Option V → Sl → Prop
  | _, .un => True
  | some v, .d x => Rp H v x
  | some v, .v x => v = x
  | none, .d _ => False
  | none, .v _ => False
abbrev Nv : Type := List (Str × Sl)
inductive NvA (H : Hp) : L2.St → Nv → Prop
  | nil : NvA H [] []
  | cons {o : Option V} {σ : L2.St} {x : Str} {s : Sl} {e : Nv} : SlOk H o s → NvA H σ e → NvA H (o :: σ) ((x, s) :: e)
theorem SlOk.mono {H H' : Hp} (e : TLe H H') : ∀ {o : Option V} {s : Sl}, SlOk H o s → SlOk H' o s
  | _, .un, _ => True.intro
  | some _, .d _, h => Rp.mono e h
  | some _, .v _, h => h
  | none, .d _, h => h
  | none, .v _, h => h
theorem NvA.mono {H H' : Hp} (e : TLe H H') : ∀ {σ : L2.St} {env : Nv}, NvA H σ env → NvA H' σ env
  | _, _, .nil => .nil
  | _, _, .cons h r => .cons (h.mono e) (NvA.mono e r)
/-- the i-th name is x, of which s is known -/
inductive Has : Nv → Nat → Str → Sl → Prop
  | here {x : Str} {s : Sl} {e : Nv} : Has ((x, s) :: e) 0 x s
  | next {x : Str} {s : Sl} {e : Nv} {i : Nat} {p : Str × Sl} : Has e i x s → Has (p :: e) (i + 1) x s
theorem Has.name : ∀ {e : Nv} {i : Nat} {x : Str} {s : Sl}, Has e i x s → (e.map (·.1))[i]? = some x
  | _, _, _, _, .here => rfl
  | _, _, _, _, .next h => by simpa using h.name
theorem Has.mem : ∀ {e : Nv} {i : Nat} {x : Str} {s : Sl}, Has e i x s → (x, s) ∈ e
  | _, _, _, _, .here => List.mem_cons_self
  | _, _, _, _, .next h => List.mem_cons_of_mem _ h.mem
theorem Has.ok {H : Hp} : ∀ {e : Nv} {i : Nat} {x : Str} {s : Sl} {σ : L2.St}, Has e i x s → NvA H σ e → ∃ o, σ[i]? = some o ∧ SlOk H o s
  | _, _, _, _, _, .here, .cons h _ => ⟨_, rfl, h⟩
  | _, _, _, _, _, .next h, .cons _ r => by
    obtain ⟨o, e, q⟩ := Has.ok h r
    exact ⟨o, by simpa using e, q⟩
/-- x is told anew -/
inductive Put : Nv → Nat → Str → Sl → Nv → Prop
  | here {x : Str} {s s' : Sl} {e : Nv} : Put ((x, s') :: e) 0 x s ((x, s) :: e)
  | next {x : Str} {s : Sl} {e e' : Nv} {i : Nat} {p : Str × Sl} : Put e i x s e' → Put (p :: e) (i + 1) x s (p :: e')
theorem Put.name : ∀ {e e' : Nv} {i : Nat} {x : Str} {s : Sl}, Put e i x s e' → (e.map (·.1))[i]? = some x ∧ e'.map (·.1) = e.map (·.1)
  | _, _, _, _, _, .here => ⟨rfl, rfl⟩
  | _, _, _, _, _, .next h => ⟨by simpa using h.name.1, by simp [h.name.2]⟩
theorem Put.ok {H : Hp} {v : V} : ∀ {e e' : Nv} {i : Nat} {x : Str} {s : Sl} {σ : L2.St}, Put e i x s e' → NvA H σ e → SlOk H (some v) s → NvA H (σ.set i (some v)) e'
  | _, _, _, _, _, _, .here, .cons _ r, h => .cons h r
  | _, _, _, _, _, _, .next p, .cons q r, h => .cons q (Put.ok p r h)
theorem Put.mem : ∀ {e e' : Nv} {i : Nat} {x : Str} {s : Sl} {p : Str × Sl}, Put e i x s e' → p ∈ e' → p = (x, s) ∨ p ∈ e
  | _, _, _, _, _, _, .here, h => (List.mem_cons.mp h).imp id fun h => List.mem_cons_of_mem _ h
  | _, _, _, _, _, _, .next q, h => by
    rcases List.mem_cons.mp h with h | h
    · exact .inr (h ▸ List.mem_cons_self)
    · exact (q.mem h).imp id fun h => List.mem_cons_of_mem _ h
structure NvOk (X : Cx) (H : Hp) (σ : L2.St) (env : Nv) : Prop where
  names : X.N = env.map (·.1)
  sl : NvA H σ env
  vis : ∀ p ∈ env, p.2 ≠ .un → Vis X.env.scope p.1
theorem NvOk.mono {X : Cx} {H H' : Hp} {σ : L2.St} {env : Nv} (e : TLe H H') (h : NvOk X H σ env) : NvOk X H' σ env := ⟨h.names, h.sl.mono e, h.vis⟩
theorem NvOk.put {X : Cx} {H : Hp} {σ : L2.St} {env env' : Nv} {i : Nat} {x : Str} {s : Sl} {v : V} (h : NvOk X H σ env) (p : Put env i x s env') (q : SlOk H (some v) s) (hv : Vis X.env.scope x) : NvOk X H (σ.set i (some v)) env' :=
  ⟨h.names.trans p.name.2.symm, p.ok h.sl q, fun y hy hn => (p.mem hy).elim (fun e => by rw [e]; exact hv) fun hm => h.vis y hm hn⟩

/-! ### readings, whichever there are -/
def wE (X : Cx) (e : Expr) : TE := fun σ H Q => ∃ t, PE X e t ∧ t σ H Q
def wT (X : Cx) (e : Expr) : TT := fun σ H Q => ∃ t, PT X e t ∧ t σ H Q
def wA (X : Cx) (es : List Expr) : TA := fun σ H Q => ∃ t, PA X es t ∧ t σ H Q
def wS (X : Cx) (b : Stmt) : TS := fun D σ H => ∃ t, PS X b t ∧ t D σ H
def wB (X : Cx) (b : List Stmt) : TS := fun D σ H => ∃ t, PSs X b t ∧ t D σ H
def wG (X : Cx) (tg : Expr) : TG := fun v σ H Q => ∃ t, PG X tg t ∧ t v σ H Q
def wI (X : Cx) (tg it : Expr) : TI := fun σ H R => ∃ t, PI X tg it t ∧ t σ H R
theorem pe_w {X : Cx} {e : Expr} : PE X e (wE X e) := ⟨fun pins s σ H Q I ⟨_, p, h⟩ => p.run pins s σ H Q I h⟩
theorem pt_w {X : Cx} {e : Expr} : PT X e (wT X e) := ⟨fun pins s σ H Q I ⟨_, p, h⟩ => p.run pins s σ H Q I h⟩
theorem pa_w {X : Cx} {es : List Expr} : PA X es (wA X es) := ⟨fun pos pins s σ H Q I ⟨_, p, h⟩ => p.run pos pins s σ H Q I h⟩
theorem ps_w {X : Cx} {b : Stmt} : PS X b (wS X b) := ⟨fun pins s σ H D I ⟨_, p, h⟩ => p.run pins s σ H D I h⟩
theorem pb_w {X : Cx} {b : List Stmt} : PSs X b (wB X b) := ⟨fun pins s σ H D I ⟨_, p, h⟩ => p.run pins s σ H D I h⟩
theorem pg_w {X : Cx} {tg : Expr} : PG X tg (wG X tg) := ⟨fun pins s σ H v u Q I r ⟨_, p, h⟩ => p.run pins s σ H v u Q I r h⟩
theorem pi_w {X : Cx} {tg it : Expr} : PI X tg it (wI X tg it) := ⟨fun pins s σ H R I ⟨_, p, h⟩ => p.run pins s σ H R I h⟩

/-! ### told by data -/
/-- e gives the data d, and all that stood stands -/
structure EvD (X : Cx) (e : Expr) (env : Nv) (H : Hp) (d : PyData) : Prop where
  run : ∀ σ H1, Ex H H1 → NvOk X H1 σ env → ∀ Q : VK, (∀ v H2, Ex H1 H2 → Rp H2 v d → Q v H2) → wE X e σ H1 Q
/-- the very value -/
structure EvV (X : Cx) (e : Expr) (env : Nv) (H : Hp) (v : V) : Prop where
  run : ∀ σ H1, Ex H H1 → NvOk X H1 σ env → ∀ Q : VK, (∀ H2, Ex H1 H2 → Q v H2) → wE X e σ H1 Q
structure EvT (X : Cx) (e : Expr) (env : Nv) (H : Hp) (b : Bool) : Prop where
  run : ∀ σ H1, Ex H H1 → NvOk X H1 σ env → ∀ Q : Bool → Hp → Prop, (∀ H2, Ex H1 H2 → Q b H2) → wT X e σ H1 Q
structure EvA (X : Cx) (es : List Expr) (env : Nv) (H : Hp) (ds : List PyData) : Prop where
  run : ∀ σ H1, Ex H H1 → NvOk X H1 σ env → ∀ Q : List V → Hp → Prop, (∀ vs H2, Ex H1 H2 → RpA H2 vs ds → Q vs H2) → wA X es σ H1 Q
/-- a list at a -/
def Lst (H : Hp) (a : Addr) (ds : List PyData) : Prop := ∃ vs, H a = some (.lst vs) ∧ RpA H vs ds
theorem Lst.mono {H H' : Hp} {a : Addr} {ds : List PyData} (h : Lst H a ds) (t : TLe H H') (e : H' a = H a) : Lst H' a ds := by
  obtain ⟨vs, h1, h2⟩ := h
  exact ⟨vs, e.trans h1, h2.mono t⟩
theorem Lst.ex {H H' : Hp} {a : Addr} {ds : List PyData} (h : Lst H a ds) (e : Ex H H') : Lst H' a ds := by
  obtain ⟨vs, h1, h2⟩ := h
  exact ⟨vs, e _ _ h1, h2.mono e.t⟩
/-- a new list -/
structure EvL (X : Cx) (e : Expr) (env : Nv) (H : Hp) (ds : List PyData) : Prop where
  run : ∀ σ H1, Ex H H1 → NvOk X H1 σ env → ∀ Q : VK, (∀ p H2, H1 p = none → Ex H1 H2 → Lst H2 p ds → Q (.ref p) H2) → wE X e σ H1 Q
/-- a list that stands: new or not, it is read at once -/
structure EvR (X : Cx) (e : Expr) (env : Nv) (H : Hp) (ds : List PyData) : Prop where
  run : ∀ σ H1, Ex H H1 → NvOk X H1 σ env → ∀ Q : VK, (∀ p H2, Ex H1 H2 → Lst H2 p ds → Q (.ref p) H2) → wE X e σ H1 Q
theorem EvL.r {X : Cx} {e : Expr} {env : Nv} {H : Hp} {ds : List PyData} (h : EvL X e env H ds) : EvR X e env H ds :=
  ⟨fun σ H1 e0 ok Q q => h.run σ H1 e0 ok Q fun p H2 _ e2 l => q p H2 e2 l⟩
theorem EvV.r {X : Cx} {e : Expr} {env : Nv} {H : Hp} {ds : List PyData} {p : Addr} (h : EvV X e env H (.ref p)) (l : Lst H p ds) : EvR X e env H ds :=
  ⟨fun σ H1 e0 ok Q q => h.run σ H1 e0 ok Q fun H2 e2 => q p H2 e2 (l.ex (e0.trans e2))⟩
section
variable {X : Cx} {e a b c : Expr} {env : Nv} {H H' : Hp} {d x y z : PyData} {pos : Pos}
theorem EvD.mono (e0 : Ex H H') (h : EvD X e env H d) : EvD X e env H' d := ⟨fun σ H1 e1 ok Q q => h.run σ H1 (e0.trans e1) ok Q q⟩
theorem EvD.is (h : EvD X e env H d) (q : d = x) : EvD X e env H x := q ▸ h
theorem EvT.is {b c : Bool} (h : EvT X e env H b) (q : b = c) : EvT X e env H c := q ▸ h
end
end WK
/-! WKRule -/
set_option Elab.async false
set_option linter.all false
set_option maxRecDepth 100000
set_option maxHeartbeats 1000000
/-! The rules: what each construct gives, told by data. -/
namespace WK
open PySem PySem.Spec PyProof.Rows L2

/-! ### what the head has left -/
structure Tx (K : PySem.W.Frag) (mg : Str → Option Value) : Prop where
  d : He.SaysD fa fn K
  ex : exB K = true
  mgs : ∀ x r, PySem.W.nsIn K mainGlobals x = some r → mg x = r
def faB (p : He.Fa → Bool) : Bool := fa.any p
theorem Tx.fact {K : PySem.W.Frag} {mg : Str → Option Value} (T : Tx K mg) {p : He.Fa → Bool} (h : faB p = true) : ∃ f ∈ fa, p f = true ∧ f.ok K = true := by
  obtain ⟨f, hf, hp⟩ := List.any_eq_true.mp h
  exact ⟨f, hf, hp, T.d.facts hf⟩
def isGlo (x : Str) : He.Fa → Bool
  | .glo y => decide (y = x)
  | _ => false
def isFree (x : Str) : He.Fa → Bool
  | .free y => decide (y = x)
  | _ => false
def isInt (x : Str) (i : Int) : He.Fa → Bool
  | .int y j => decide (y = x) && decide (j = i)
  | _ => false
def isStr (x z : Str) : He.Fa → Bool
  | .str y u => decide (y = x) && decide (u = z)
  | _ => false
section
variable {K : PySem.W.Frag} {mg : Str → Option Value}
theorem Tx.glo (T : Tx K mg) {x : Str} (h : faB (isGlo x) = true) : mg x = some (.ref (He.ga K x)) := by
  obtain ⟨f, _, h2, h3⟩ := T.fact h
  cases f with
  | glo y =>
    have e : y = x := of_decide_eq_true h2
    subst e
    exact T.mgs _ _ (He.eqO_ok h3)
  | _ => exact Bool.noConfusion h2
theorem Tx.free (T : Tx K mg) {x : Str} (h : faB (isFree x) = true) : mg x = none := by
  obtain ⟨f, _, h2, h3⟩ := T.fact h
  cases f with
  | free y =>
    have e : y = x := of_decide_eq_true h2
    subst e
    exact T.mgs _ _ (He.eqO_ok h3)
  | _ => exact Bool.noConfusion h2
theorem Tx.int (T : Tx K mg) {x : Str} {i : Int} (h : faB (isInt x i) = true) : ∃ t, mg x = some (.int i t) := by
  obtain ⟨f, _, h2, h3⟩ := T.fact h
  cases f with
  | int y j =>
    obtain ⟨e1, e2⟩ := Bool.and_eq_true_iff.mp h2
    have e1 : y = x := of_decide_eq_true e1
    have e2 : j = i := of_decide_eq_true e2
    subst e1 e2
    simp only [He.Fa.ok] at h3
    split at h3
    · rename_i k t hk
      have e : k = j := of_decide_eq_true h3
      subst e
      exact ⟨t, T.mgs _ _ hk⟩
    · cases h3
  | _ => exact Bool.noConfusion h2
theorem Tx.str (T : Tx K mg) {x z : Str} (h : faB (isStr x z) = true) : ∃ t, mg x = some (.str z t) := by
  obtain ⟨f, _, h2, h3⟩ := T.fact h
  cases f with
  | str y j =>
    obtain ⟨e1, e2⟩ := Bool.and_eq_true_iff.mp h2
    have e1 : y = x := of_decide_eq_true e1
    have e2 : j = z := of_decide_eq_true e2
    subst e1 e2
    simp only [He.Fa.ok] at h3
    split at h3
    · rename_i k t hk
      have e : k = j := of_decide_eq_true h3
      subst e
      exact ⟨t, T.mgs _ _ hk⟩
    · cases h3
  | _ => exact Bool.noConfusion h2
end
/-! ### where one stands -/
structure Hs (X : Cx) (k : Nat) : Prop where
  t : Tx X.K X.mg
  room : Room k X.A
  calm : X.calm = true
  nd : X.N.Nodup
  xe : X.xe = fun _ _ => False
/-- names' kinds, looked up by running -/
def visB (sc : Scope) (x : Str) : Bool := match sc.names.lookup x with
  | some .local => !(x == "__debug__") && !(x == "__classdict__")
  | some .cell => !(x == "__debug__") && !(x == "__classdict__")
  | some .free => !(x == "__debug__") && !(x == "__classdict__")
  | _ => false
def glB (sc : Scope) (x : Str) : Bool := decide (sc.names.lookup x = some .globalImplicit) && !(x == "__debug__")
structure VisN (sc : Scope) (x : Str) : Prop where
  vis : Vis sc x
  n1 : (x == ("__debug__" : Str)) = false
  n2 : (x == ("__classdict__" : Str)) = false
theorem visN {sc : Scope} {x : Str} (h : visB sc x = true) : VisN sc x := by
  unfold visB at h
  split at h <;> first
    | cases h
    | (rename_i e; obtain ⟨h1, h2⟩ := Bool.and_eq_true_iff.mp h; exact ⟨by first | exact .inl e | exact .inr (.inl e) | exact .inr (.inr e), by simpa using h1, by simpa using h2⟩)
theorem gl_of {X : Cx} {sc : Scope} {x : Str} (hs : X.env.scope = sc) (h : glB sc x = true) : Gl X x := by
  obtain ⟨h1, _⟩ := Bool.and_eq_true_iff.mp h
  show X.env.scope.names.lookup x = _
  rw [hs]
  exact of_decide_eq_true h1
theorem gl_db {sc : Scope} {x : Str} (h : glB sc x = true) : (x == ("__debug__" : Str)) = false := by
  obtain ⟨_, h1⟩ := Bool.and_eq_true_iff.mp h
  simpa using h1

section
variable {X : Cx} {k : Nat} {e a b c : Expr} {es : List Expr} {env : Nv} {H : Hp} {d x y z : PyData} {ds ys : List PyData} {pos p : Pos} {sc : Scope}
/-! ### names, constants -/
theorem ed_var {i : Nat} {n : Str} (h : Has env i n (.d d)) (hs : X.env.scope = sc) (hv : visB sc n = true) : EvD X (.Name n pos) env H d := ⟨fun σ H1 e0 ok Q q => by
  obtain ⟨o, e1, r⟩ := h.ok ok.sl
  have w := visN hv
  cases o with
  | none => exact r.elim
  | some v => exact ⟨_, pe_var (i := i) (by rw [ok.names]; exact h.name) (by rw [hs]; exact w.vis) w.n1 w.n2, v, e1, q v H1 (Ex.refl _) r⟩⟩
theorem ev_var {i : Nat} {n : Str} {v : V} (h : Has env i n (.v v)) (hs : X.env.scope = sc) (hv : visB sc n = true) : EvV X (.Name n pos) env H v := ⟨fun σ H1 e0 ok Q q => by
  obtain ⟨o, e1, r⟩ := h.ok ok.sl
  have w := visN hv
  cases o with
  | none => exact r.elim
  | some u =>
    have e2 : u = v := r
    subst e2
    exact ⟨_, pe_var (i := i) (by rw [ok.names]; exact h.name) (by rw [hs]; exact w.vis) w.n1 w.n2, u, e1, q H1 (Ex.refl _)⟩⟩
theorem ed_int {i : Int} {j : Nat} : EvD X (.Constant (.int i) j pos) env H (.int i) := ⟨fun _ H1 _ _ _ q => ⟨_, pe_int, q _ H1 (Ex.refl _) (.int i)⟩⟩
theorem ed_bl {i : Bool} {j : Nat} : EvD X (.Constant (.bool i) j pos) env H (.bool i) := ⟨fun _ H1 _ _ _ q => ⟨_, pe_bl, q _ H1 (Ex.refl _) (.bl i)⟩⟩
theorem ed_non {j : Nat} : EvD X (.Constant .none j pos) env H .none := ⟨fun _ H1 _ _ _ q => ⟨_, pe_non, q _ H1 (Ex.refl _) .non⟩⟩
theorem ed_str {i : Str} {j : Nat} : EvD X (.Constant (.str i) j pos) env H (.str i) := ⟨fun _ H1 _ _ _ q => ⟨_, pe_str, q _ H1 (Ex.refl _) (.str i)⟩⟩
theorem ed_gint {n : Str} {i : Int} (A : Hs X k) (hs : X.env.scope = sc) (hg : glB sc n = true) (h : faB (isInt n i) = true) : EvD X (.Name n pos) env H (.int i) := ⟨fun _ H1 _ _ _ q => by
  obtain ⟨t, e⟩ := A.t.int h
  exact ⟨_, pe_glob (v := .int i) (gl_of hs hg) e ⟨t, rfl⟩ (gl_db hg), q _ H1 (Ex.refl _) (.int i)⟩⟩
theorem ed_gstr {n i : Str} (A : Hs X k) (hs : X.env.scope = sc) (hg : glB sc n = true) (h : faB (isStr n i) = true) : EvD X (.Name n pos) env H (.str i) := ⟨fun _ H1 _ _ _ q => by
  obtain ⟨t, e⟩ := A.t.str h
  exact ⟨_, pe_glob (v := .str i) (gl_of hs hg) e ⟨t, rfl⟩ (gl_db hg), q _ H1 (Ex.refl _) (.str i)⟩⟩

/-! ### arguments -/
theorem ea_nil : EvA X [] env H [] := ⟨fun _ H1 _ _ _ q => ⟨_, pa_nil, q _ H1 (Ex.refl _) .nil⟩⟩
/-- no star stands there -/
def plainE : Expr → Bool
  | .Starred _ _ => false
  | _ => true
theorem star_of {e : Expr} {es : List Expr} {n : Env} (h : plainE e = true) : starEach (e :: es) n = (false, eval e n) :: starEach es n := by
  cases e <;> first
    | rfl
    | cases h
theorem plain_of {pos : Pos} {n : Env} : ∀ {es : List Expr}, es.all plainE = true → (backTo pos (starEach es n)).any (·.1) = false := by
  intro es h
  have key : ∀ {es : List Expr}, es.all plainE = true → ∀ q ∈ starEach es n, q.1 = false := by
    intro es
    induction es with
    | nil => intro _ q hq; cases hq
    | cons e es ih =>
      intro h q hq
      obtain ⟨h1, h2⟩ := Bool.and_eq_true_iff.mp h
      rw [star_of h1] at hq
      rcases List.mem_cons.mp hq with rfl | hq
      · rfl
      · exact ih h2 q hq
  rw [List.any_eq_false]
  intro q hq
  have hb : ∀ (l : List (Bool × Sem Value)), (∀ q ∈ l, q.1 = false) → ∀ q ∈ backTo pos l, q.1 = false := by
    intro l hl q hq
    unfold backTo at hq
    obtain ⟨r, hr, rfl⟩ := List.mem_map.mp hq
    exact hl r hr
  rw [hb _ (key h) q hq]
  decide
theorem ea_cons (ha : EvD X e env H d) (hr : EvA X es env H ds) (hp : plainE e = true := by rfl) : EvA X (e :: es) env H (d :: ds) := ⟨fun σ H1 e0 ok Q q =>
  ⟨_, pa_cons pe_w pa_w (star_of hp), ha.run σ H1 e0 ok _ fun v H2 e2 r2 => hr.run σ H2 (e0.trans e2) (ok.mono e2.t) _ fun vs H3 e3 r3 => q _ H3 (e2.trans e3) (.cons (r2.mono e3.t) r3)⟩⟩
/-! ### displays -/
theorem ed_tup {j : Nat} (h : EvA X es env H ds) (hl : ds.length ≤ 1000 := by exact Nat.le_of_ble_eq_true rfl) : EvD X (.Tuple es j pos) env H (.tuple ds) := ⟨fun σ H1 e0 ok Q q =>
  ⟨_, pe_tup pa_w, h.run σ H1 e0 ok _ fun vs H2 e2 r => ⟨by rw [r.len]; exact Nat.le_trans hl (by decide), fun pp hp => q _ _ (e2.trans (Ex.new hp)) (.tup upd_same (r.mono (Ex.new hp).t))⟩⟩⟩
theorem el_lst (h : EvA X es env H ds) (hl : ds.length ≤ 1000 := by exact Nat.le_of_ble_eq_true rfl) : EvL X (.List es pos) env H ds := ⟨fun σ H1 e0 ok Q q =>
  ⟨_, pe_lst pa_w, h.run σ H1 e0 ok _ fun vs H2 e2 r => ⟨by rw [r.len]; exact Nat.le_trans hl (by decide), fun pp hp => q pp _ (e2.back hp) (e2.trans (Ex.new hp)) ⟨vs, upd_same, r.mono (Ex.new hp).t⟩⟩⟩⟩
/-! ### operators -/
theorem bin2 (ha : EvD X a env H x) (hb : EvD X b env H y) {σ : L2.St} {H1 : Hp} (e0 : Ex H H1) (ok : NvOk X H1 σ env) {r : R2} {Q : VK} (h : ∀ v u H2, Ex H1 H2 → Rp H2 v x → Rp H2 u y → r v u H2 Q) : tOp r (wE X a) (wE X b) σ H1 Q :=
  ha.run σ H1 e0 ok _ fun v H2 e2 r2 => hb.run σ H2 (e0.trans e2) (ok.mono e2.t) _ fun u H3 e3 r3 => h v u H3 (e2.trans e3) (r2.mono e3.t) r3
theorem ed_opI {op : Operator} {i j : Int} {C : Int → Int → Prop} {g : Int → Int → Int} (ho : OpR X (binaryOp op) (rI C fun i j => .int (g i j))) (ha : EvD X a env H (.int i)) (hb : EvD X b env H (.int j)) (hc : C i j) : EvD X (.BinOp a op b pos) env H (.int (g i j)) := ⟨fun σ H1 e0 ok Q q =>
  ⟨_, pe_op ho pe_w pe_w, bin2 ha hb e0 ok fun v u H2 e2 r1 r2 => by
    cases r1
    cases r2
    exact ⟨i, j, rfl, rfl, hc, q _ H2 e2 (.int _)⟩⟩⟩
theorem ed_opI0 {op : Operator} {i j : Int} {g : Int → Int → Int} (ho : OpR X (binaryOp op) (rI0 fun i j => .int (g i j))) (ha : EvD X a env H (.int i)) (hb : EvD X b env H (.int j)) : EvD X (.BinOp a op b pos) env H (.int (g i j)) := ⟨fun σ H1 e0 ok Q q =>
  ⟨_, pe_op ho pe_w pe_w, bin2 ha hb e0 ok fun v u H2 e2 r1 r2 => by
    cases r1
    cases r2
    exact ⟨i, j, rfl, rfl, q _ H2 e2 (.int _)⟩⟩⟩
theorem ed_add {i j : Int} (ha : EvD X a env H (.int i)) (hb : EvD X b env H (.int j)) : EvD X (.BinOp a .Add b pos) env H (.int (i + j)) := ed_opI0 op_add ha hb
theorem ed_sub {i j : Int} (ha : EvD X a env H (.int i)) (hb : EvD X b env H (.int j)) : EvD X (.BinOp a .Sub b pos) env H (.int (i - j)) := ed_opI0 op_sub ha hb
theorem ed_neg {i : Int} (ha : EvD X a env H (.int i)) : EvD X (.UnaryOp .USub a pos) env H (.int (-i)) := ⟨fun σ H1 e0 ok Q q =>
  ⟨_, pe_un un_neg pe_w, ha.run σ H1 e0 ok _ fun v H2 e2 r => by
    cases r
    exact ⟨i, rfl, q _ H2 e2 (.int _)⟩⟩⟩
/-- tuple + tuple -/
theorem ed_cat (ha : EvD X a env H (.tuple ds)) (hb : EvD X b env H (.tuple ys)) (hl : ds.length + ys.length ≤ 100000) : EvD X (.BinOp a .Add b pos) env H (.tuple (ds ++ ys)) := ⟨fun σ H1 e0 ok Q q =>
  ⟨_, pe_op op_catA pe_w pe_w, bin2 ha hb e0 ok fun v u H2 e2 r1 r2 => by
    cases r1 with
    | tup h1 q1 =>
    cases r2 with
    | tup h2 q2 =>
    refine ⟨_, _, _, _, rfl, rfl, SqT.of h1, SqT.of h2, by rw [q1.len, q2.len]; exact Nat.le_trans hl (by decide), fun z => ?_, fun z w => ?_, fun z w pp hp => ?_⟩
    · subst z
      have := q1.len
      cases ds with
      | nil => exact q _ H2 e2 (.tup h2 q2)
      | cons _ _ => cases this
    · subst w
      have := q2.len
      cases ys with
      | nil =>
        exact q _ H2 e2 (.tup h1 (by rw [List.append_nil]; exact q1))
      | cons _ _ => cases this
    · exact q _ _ (e2.trans (Ex.new hp)) (.tup upd_same ((q1.app q2).mono (Ex.new hp).t))⟩⟩
/-! ### comparisons -/
theorem ed_cmpR {op : CmpOp} {r : R2} (ho : OpR X (compareOp op) r) (ha : EvD X a env H x) (hb : EvD X b env H y) {t : Bool} (h : ∀ v u H2, Rp H2 v x → Rp H2 u y → ∀ Q : VK, Q (.bl t) H2 → r v u H2 Q) (hm : behindInMarks op b = false) :
    EvD X (.Compare a [op] [b] pos) env H (.bool t) := ⟨fun σ H1 e0 ok Q q => ⟨_, pe_cmpR ho pe_w pe_w hm, bin2 ha hb e0 ok fun v u H2 e2 r1 r2 => h v u H2 r1 r2 Q (q _ H2 e2 (.bl t))⟩⟩
theorem et_cmpR {op : CmpOp} {r : R2} (ho : OpR X (compareOp op) r) (ha : EvD X a env H x) (hb : EvD X b env H y) {t : Bool} (h : ∀ v u H2, Rp H2 v x → Rp H2 u y → ∀ Q : VK, Q (.bl t) H2 → r v u H2 Q) (hm : behindInMarks op b = false) :
    EvT X (.Compare a [op] [b] pos) env H t := ⟨fun σ H1 e0 ok Q q => ⟨_, pt_cmpR ho pe_w pe_w hm, bin2 ha hb e0 ok fun v u H2 e2 r1 r2 => h v u H2 r1 r2 _ ⟨t, rfl, q H2 e2⟩⟩⟩
theorem cI0 {f : Int → Int → Bool} {i j : Int} : ∀ (v u : V) (H2 : Hp), Rp H2 v (.int i) → Rp H2 u (.int j) → ∀ Q : VK, Q (.bl (f i j)) H2 → rI0 (fun i j => .bl (f i j)) v u H2 Q := fun v u H2 r1 r2 Q q => by
  cases r1
  cases r2
  exact ⟨i, j, rfl, rfl, q⟩
variable {i j : Int}
theorem ed_lt (ha : EvD X a env H (.int i)) (hb : EvD X b env H (.int j)) : EvD X (.Compare a [.Lt] [b] pos) env H (.bool (decide (i < j))) := ed_cmpR op_lt ha hb (cI0 (f := fun i j => decide (i < j))) (nomark _)
theorem ed_le (ha : EvD X a env H (.int i)) (hb : EvD X b env H (.int j)) : EvD X (.Compare a [.LtE] [b] pos) env H (.bool (decide (i ≤ j))) := ed_cmpR op_le ha hb (cI0 (f := fun i j => decide (i ≤ j))) (nomark _)
theorem ed_gt (ha : EvD X a env H (.int i)) (hb : EvD X b env H (.int j)) : EvD X (.Compare a [.Gt] [b] pos) env H (.bool (decide (j < i))) := ed_cmpR op_gt ha hb (cI0 (f := fun i j => decide (j < i))) (nomark _)
theorem ed_ge (ha : EvD X a env H (.int i)) (hb : EvD X b env H (.int j)) : EvD X (.Compare a [.GtE] [b] pos) env H (.bool (decide (j ≤ i))) := ed_cmpR op_ge ha hb (cI0 (f := fun i j => decide (j ≤ i))) (nomark _)
theorem et_lt (ha : EvD X a env H (.int i)) (hb : EvD X b env H (.int j)) : EvT X (.Compare a [.Lt] [b] pos) env H (decide (i < j)) := et_cmpR op_lt ha hb (cI0 (f := fun i j => decide (i < j))) (nomark _)
theorem et_le (ha : EvD X a env H (.int i)) (hb : EvD X b env H (.int j)) : EvT X (.Compare a [.LtE] [b] pos) env H (decide (i ≤ j)) := et_cmpR op_le ha hb (cI0 (f := fun i j => decide (i ≤ j))) (nomark _)
theorem et_gt (ha : EvD X a env H (.int i)) (hb : EvD X b env H (.int j)) : EvT X (.Compare a [.Gt] [b] pos) env H (decide (j < i)) := et_cmpR op_gt ha hb (cI0 (f := fun i j => decide (j < i))) (nomark _)
theorem et_ge (ha : EvD X a env H (.int i)) (hb : EvD X b env H (.int j)) : EvT X (.Compare a [.GtE] [b] pos) env H (decide (j ≤ i)) := et_cmpR op_ge ha hb (cI0 (f := fun i j => decide (j ≤ i))) (nomark _)
/-- == of data of any depth -/
theorem cEq (sx : SeqAt.shaped x = true) (sy : SeqAt.shaped y = true) : ∀ (v u : V) (H2 : Hp), Rp H2 v x → Rp H2 u y → ∀ Q : VK, Q (.bl (PyData.eqv x y)) H2 → rEqD X.K v u H2 Q := fun v u H2 r1 r2 Q q => ⟨x, y, r1.dp, r2.dp, sx, sy, q⟩
theorem cNe (sx : SeqAt.shaped x = true) (sy : SeqAt.shaped y = true) : ∀ (v u : V) (H2 : Hp), Rp H2 v x → Rp H2 u y → ∀ Q : VK, Q (.bl (!PyData.eqv x y)) H2 → rNeD X.K v u H2 Q := fun v u H2 r1 r2 Q q => ⟨x, y, r1.dp, r2.dp, sx, sy, q⟩
theorem Hs.units (A : Hs X k) : X.A.units + 64 < cLine := by have := A.room.un; omega
theorem Hs.units0 (A : Hs X k) : X.A.units < cLine := by have := A.room.un; omega
theorem Hs.units1 (A : Hs X k) : X.A.units + 1 < cLine := by have := A.room.un; omega
theorem ed_eq (A : Hs X k) (ha : EvD X a env H x) (hb : EvD X b env H y) (sx : SeqAt.shaped x = true) (sy : SeqAt.shaped y = true) : EvD X (.Compare a [.Eq] [b] pos) env H (.bool (PyData.eqv x y)) := ed_cmpR (op_eqD A.units) ha hb (cEq sx sy) (nomark _)
theorem et_eq (A : Hs X k) (ha : EvD X a env H x) (hb : EvD X b env H y) (sx : SeqAt.shaped x = true) (sy : SeqAt.shaped y = true) : EvT X (.Compare a [.Eq] [b] pos) env H (PyData.eqv x y) := et_cmpR (op_eqD A.units) ha hb (cEq sx sy) (nomark _)
theorem ed_ne (A : Hs X k) (ha : EvD X a env H x) (hb : EvD X b env H y) (sx : SeqAt.shaped x = true) (sy : SeqAt.shaped y = true) : EvD X (.Compare a [.NotEq] [b] pos) env H (.bool (!PyData.eqv x y)) := ed_cmpR (op_neD A.units) ha hb (cNe sx sy) (nomark _)
theorem et_ne (A : Hs X k) (ha : EvD X a env H x) (hb : EvD X b env H y) (sx : SeqAt.shaped x = true) (sy : SeqAt.shaped y = true) : EvT X (.Compare a [.NotEq] [b] pos) env H (!PyData.eqv x y) := et_cmpR (op_neD A.units) ha hb (cNe sx sy) (nomark _)
/-- is None -/
def isN : PyData → Bool
  | .none => true
  | _ => false
theorem isN_of {H2 : Hp} {v : V} (r : Rp H2 v x) : decide (v = .non) = isN x := by cases r <;> rfl
theorem cIs : ∀ (v u : V) (H2 : Hp), Rp H2 v x → Rp H2 u .none → ∀ Q : VK, Q (.bl (isN x)) H2 → (u = .non ∧ Q (.bl (decide (v = .non))) H2) := fun v u H2 r1 r2 Q q => by
  cases r2
  exact ⟨rfl, by rw [isN_of r1]; exact q⟩
theorem cNot : ∀ (v u : V) (H2 : Hp), Rp H2 v x → Rp H2 u .none → ∀ Q : VK, Q (.bl (!isN x)) H2 → (u = .non ∧ Q (.bl (!decide (v = .non))) H2) := fun v u H2 r1 r2 Q q => by
  cases r2
  exact ⟨rfl, by rw [isN_of r1]; exact q⟩
theorem ed_is (ha : EvD X a env H x) (hb : EvD X b env H .none) : EvD X (.Compare a [.Is] [b] pos) env H (.bool (isN x)) := ed_cmpR op_isN ha hb cIs (nomark _)
theorem et_is (ha : EvD X a env H x) (hb : EvD X b env H .none) : EvT X (.Compare a [.Is] [b] pos) env H (isN x) := et_cmpR op_isN ha hb cIs (nomark _)
theorem ed_isnt (ha : EvD X a env H x) (hb : EvD X b env H .none) : EvD X (.Compare a [.IsNot] [b] pos) env H (.bool (!isN x)) := ed_cmpR op_notN ha hb cNot (nomark _)
theorem et_isnt (ha : EvD X a env H x) (hb : EvD X b env H .none) : EvT X (.Compare a [.IsNot] [b] pos) env H (!isN x) := et_cmpR op_notN ha hb cNot (nomark _)
/-- in, not in a tuple of flat things -/
def flatD : PyData → Bool
  | .none => true
  | .bool _ => true
  | .int _ => true
  | .str _ => true
  | _ => false
def inD (x : PyData) (ds : List PyData) : Bool := ds.any fun y => PyData.eqv y x
theorem flat_of {H2 : Hp} {v : V} (r : Rp H2 v x) : flatV v = flatD x := by cases r <;> rfl
theorem eqV_of {H2 : Hp} {v u : V} (r : Rp H2 v x) (q : Rp H2 u y) (h : flatD x = true) : eqV v u = PyData.eqv x y := by
  cases r <;> cases q <;> first
    | rfl
    | cases h
theorem inV_of {H2 : Hp} {v : V} (r : Rp H2 v x) : ∀ {vs : List V} {ds : List PyData}, RpA H2 vs ds → ds.all flatD = true → inV v vs = inD x ds ∧ vs.all flatV = true
  | _, _, .nil, _ => ⟨rfl, rfl⟩
  | _, _, .cons q rr, h => by
    obtain ⟨h1, h2⟩ := Bool.and_eq_true_iff.mp h
    obtain ⟨k1, k2⟩ := inV_of r rr h2
    exact ⟨by
      show (eqV _ v || inV v _) = (PyData.eqv _ x || inD x _)
      rw [k1, eqV_of q r h1], by
      show (flatV _ && List.all _ _) = true
      rw [k2, flat_of q, h1]
      rfl⟩
theorem cIn {neg : Bool} (fx : flatD x = true) (fs : ds.all flatD = true) : ∀ (v u : V) (H2 : Hp), Rp H2 v x → Rp H2 u (.tuple ds) → ∀ Q : VK, Q (.bl (if neg then !inD x ds else inD x ds)) H2 → rIn X.K neg v u H2 Q := fun v u H2 r1 r2 Q q => by
  cases r2 with
  | tup h r =>
    obtain ⟨e1, e2⟩ := inV_of r1 r fs
    exact ⟨_, _, rfl, .inr (SqT.of h), by rw [flat_of r1]; exact fx, e2, by rw [e1]; exact q⟩
theorem ed_in (ha : EvD X a env H x) (hb : EvD X b env H (.tuple ds)) (fx : flatD x = true) (fs : ds.all flatD = true) (hm : behindInMarks .In b = false := by rfl) : EvD X (.Compare a [.In] [b] pos) env H (.bool (inD x ds)) := ed_cmpR op_in_seq ha hb (cIn (neg := false) fx fs) hm
theorem et_in (ha : EvD X a env H x) (hb : EvD X b env H (.tuple ds)) (fx : flatD x = true) (fs : ds.all flatD = true) (hm : behindInMarks .In b = false := by rfl) : EvT X (.Compare a [.In] [b] pos) env H (inD x ds) := et_cmpR op_in_seq ha hb (cIn (neg := false) fx fs) hm
theorem ed_nin (ha : EvD X a env H x) (hb : EvD X b env H (.tuple ds)) (fx : flatD x = true) (fs : ds.all flatD = true) (hm : behindInMarks .NotIn b = false := by rfl) : EvD X (.Compare a [.NotIn] [b] pos) env H (.bool (!inD x ds)) := ed_cmpR op_notIn_seq ha hb (cIn (neg := true) fx fs) hm
theorem et_nin (ha : EvD X a env H x) (hb : EvD X b env H (.tuple ds)) (fx : flatD x = true) (fs : ds.all flatD = true) (hm : behindInMarks .NotIn b = false := by rfl) : EvT X (.Compare a [.NotIn] [b] pos) env H (!inD x ds) := et_cmpR op_notIn_seq ha hb (cIn (neg := true) fx fs) hm
/-- a <= b <= c -/
theorem ed_chain {l m : Int} (ha : EvD X a env H (.int i)) (hb : EvD X b env H (.int l)) (hc : EvD X c env H (.int m)) (hm : lastMarks [.LtE, .LtE] [b, c] = false := by with_unfolding_all rfl) :
    EvD X (.Compare a [.LtE, .LtE] [b, c] pos) env H (.bool (decide (i ≤ l) && decide (l ≤ m))) := ⟨fun σ H1 e0 ok Q q =>
  ⟨_, pe_chain op_le op_le pe_w pe_w pe_w hm, ha.run σ H1 e0 ok _ fun v H2 e2 r2 => hb.run σ H2 (e0.trans e2) (ok.mono e2.t) _ fun u H3 e3 r3 => by
    cases r2
    cases r3
    refine ⟨i, l, rfl, rfl, decide (i ≤ l), rfl, ?_⟩
    by_cases h : i ≤ l
    · rw [if_pos (decide_eq_true h)]
      refine hc.run σ H3 ((e0.trans e2).trans e3) ((ok.mono e2.t).mono e3.t) _ fun w' H4 e4 r4 => ?_
      cases r4
      refine ⟨l, m, rfl, rfl, q _ H4 ((e2.trans e3).trans e4) ?_⟩
      rw [decide_eq_true h, Bool.true_and]
      exact .bl _
    · have h2 : decide (i ≤ l) = false := decide_eq_false h
      rw [if_neg (by rw [h2]; decide)]
      refine q _ H3 (e2.trans e3) ?_
      rw [h2, Bool.false_and]
      exact .bl _⟩⟩
theorem et_chain {l m : Int} (ha : EvD X a env H (.int i)) (hb : EvD X b env H (.int l)) (hc : EvD X c env H (.int m)) (hm : lastMarks [.LtE, .LtE] [b, c] = false := by with_unfolding_all rfl) :
    EvT X (.Compare a [.LtE, .LtE] [b, c] pos) env H (decide (i ≤ l) && decide (l ≤ m)) := ⟨fun σ H1 e0 ok Q q =>
  ⟨_, pt_chain op_le op_le pe_w pe_w pe_w hm, ha.run σ H1 e0 ok _ fun v H2 e2 r2 => hb.run σ H2 (e0.trans e2) (ok.mono e2.t) _ fun u H3 e3 r3 => by
    cases r2
    cases r3
    refine ⟨i, l, rfl, rfl, decide (i ≤ l), rfl, ?_⟩
    by_cases h : i ≤ l
    · rw [if_pos (decide_eq_true h)]
      refine hc.run σ H3 ((e0.trans e2).trans e3) ((ok.mono e2.t).mono e3.t) _ fun w' H4 e4 r4 => ?_
      cases r4
      refine ⟨l, m, rfl, rfl, decide (l ≤ m), rfl, ?_⟩
      have h3 := q H4 ((e2.trans e3).trans e4)
      rw [decide_eq_true h, Bool.true_and] at h3
      exact h3
    · have h2 : decide (i ≤ l) = false := decide_eq_false h
      rw [if_neg (by rw [h2]; decide)]
      have h3 := q H3 (e2.trans e3)
      rw [h2, Bool.false_and] at h3
      exact ⟨false, rfl, h3⟩⟩⟩
/-! ### and, or, not, if else -/
theorem ed_one {op : BoolOp} (h : EvD X a env H d) : EvD X (.BoolOp op [a] pos) env H d := ⟨fun σ H1 e0 ok Q q => ⟨_, pe_one pe_w, h.run σ H1 e0 ok Q q⟩⟩
theorem ed_and {s t : Bool} (ha : EvD X a env H (.bool s)) (hb : s = true → EvD X (.BoolOp .And (b :: es) pos) env H (.bool t)) : EvD X (.BoolOp .And (a :: b :: es) pos) env H (.bool (s && t)) := ⟨fun σ H1 e0 ok Q q =>
  ⟨_, pe_and pe_w pe_w, ha.run σ H1 e0 ok _ fun v H2 e2 r => by
    cases r
    refine ⟨s, rfl, ?_⟩
    cases s with
    | true =>
      rw [if_pos rfl]
      exact (hb rfl).run σ H2 (e0.trans e2) (ok.mono e2.t) _ fun v H3 e3 r3 => q v H3 (e2.trans e3) r3
    | false => exact q _ H2 e2 (.bl false)⟩⟩
theorem ed_or {s t : Bool} (ha : EvD X a env H (.bool s)) (hb : s = false → EvD X (.BoolOp .Or (b :: es) pos) env H (.bool t)) : EvD X (.BoolOp .Or (a :: b :: es) pos) env H (.bool (s || t)) := ⟨fun σ H1 e0 ok Q q =>
  ⟨_, pe_or pe_w pe_w, ha.run σ H1 e0 ok _ fun v H2 e2 r => by
    cases r
    refine ⟨s, rfl, ?_⟩
    cases s with
    | false =>
      rw [if_neg (by decide)]
      exact (hb rfl).run σ H2 (e0.trans e2) (ok.mono e2.t) _ fun v H3 e3 r3 => q v H3 (e2.trans e3) r3
    | true => exact q _ H2 e2 (.bl true)⟩⟩
theorem ed_not {s : Bool} (ha : EvD X a env H (.bool s)) : EvD X (.UnaryOp .Not a pos) env H (.bool (!s)) := ⟨fun σ H1 e0 ok Q q =>
  ⟨_, pe_not pe_w, ha.run σ H1 e0 ok _ fun v H2 e2 r => by
    cases r
    exact ⟨s, rfl, q _ H2 e2 (.bl _)⟩⟩⟩
/-- a test that is a BoolOp: as the layer's PW -/
structure EvW (X : Cx) (e : Expr) (env : Nv) (H : Hp) (b : Bool) : Prop where
  run : ∀ σ H1, Ex H H1 → NvOk X H1 σ env → ∀ Q : Bool → Hp → Prop, (∀ H2, Ex H1 H2 → Q b H2) → ∃ t, PW X e t ∧ t σ H1 Q
theorem pw_w {X : Cx} {e : Expr} : PW X e (fun σ H Q => ∃ t, PW X e t ∧ t σ H Q) := ⟨fun whole pins s σ H Q I ⟨_, p, h⟩ => p.run whole pins s σ H Q I h⟩
theorem et_bool {t : Bool} (h : EvW X e env H t) : EvT X e env H t := ⟨fun σ H1 e0 ok Q q => by
  obtain ⟨t, p, r⟩ := h.run σ H1 e0 ok Q q
  exact ⟨t, p.pt, r⟩⟩
theorem ew_and1 {s : Bool} (ha : EvT X a env H s) : EvW X (.BoolOp .And [a] pos) env H s := ⟨fun σ H1 e0 ok Q q => ⟨_, pw_and1 pt_w, ha.run σ H1 e0 ok Q q⟩⟩
theorem ew_or1 {s : Bool} (ha : EvT X a env H s) : EvW X (.BoolOp .Or [a] pos) env H s := ⟨fun σ H1 e0 ok Q q => ⟨_, pw_or1 pt_w, ha.run σ H1 e0 ok Q q⟩⟩
theorem ew_and {s t : Bool} (ha : EvT X a env H s) (hb : s = true → EvW X (.BoolOp .And (b :: es) pos) env H t) : EvW X (.BoolOp .And (a :: b :: es) pos) env H (s && t) := ⟨fun σ H1 e0 ok Q q =>
  ⟨_, pw_and pt_w pw_w, ha.run σ H1 e0 ok _ fun H2 e2 => by
    cases s with
    | true =>
      rw [if_pos rfl]
      exact (hb rfl).run σ H2 (e0.trans e2) (ok.mono e2.t) _ fun H3 e3 => q H3 (e2.trans e3)
    | false => exact q H2 e2⟩⟩
theorem ew_or {s t : Bool} (ha : EvT X a env H s) (hb : s = false → EvW X (.BoolOp .Or (b :: es) pos) env H t) : EvW X (.BoolOp .Or (a :: b :: es) pos) env H (s || t) := ⟨fun σ H1 e0 ok Q q =>
  ⟨_, pw_or pt_w pw_w, ha.run σ H1 e0 ok _ fun H2 e2 => by
    cases s with
    | false =>
      rw [if_neg (by decide)]
      exact (hb rfl).run σ H2 (e0.trans e2) (ok.mono e2.t) _ fun H3 e3 => q H3 (e2.trans e3)
    | true => exact q H2 e2⟩⟩
theorem et_not {s : Bool} (ha : EvT X a env H s) : EvT X (.UnaryOp .Not a pos) env H (!s) := ⟨fun σ H1 e0 ok Q q => ⟨_, pt_not pt_w, ha.run σ H1 e0 ok _ q⟩⟩
/-- a value as a test -/
theorem et_val {s : Bool} (ha : EvD X a env H (.bool s)) (he : ∀ whole, isTrue a X.env whole = (do let v ← whole; standAt a.pos; holding [v] (truthy v)) := by intro _; rfl) : EvT X a env H s := ⟨fun σ H1 e0 ok Q q =>
  ⟨_, pt_val pe_w he, ha.run σ H1 e0 ok _ fun v H2 e2 r => by
    cases r
    exact ⟨s, rfl, q H2 e2⟩⟩⟩
theorem ed_if {s : Bool} (hc : EvT X c env H s) (ha : s = true → EvD X a env H x) (hb : s = false → EvD X b env H y) : EvD X (.IfExp c a b pos) env H (bif s then x else y) := ⟨fun σ H1 e0 ok Q q =>
  ⟨_, pe_ifExp pt_w pe_w pe_w, hc.run σ H1 e0 ok _ fun H2 e2 => by
    cases s with
    | true => exact (ha rfl).run σ H2 (e0.trans e2) (ok.mono e2.t) _ fun v H3 e3 r => q v H3 (e2.trans e3) r
    | false => exact (hb rfl).run σ H2 (e0.trans e2) (ok.mono e2.t) _ fun v H3 e3 r => q v H3 (e2.trans e3) r⟩⟩
/-! ### items, slices -/
theorem atI_rp {H2 : Hp} {vs : List V} (r : RpA H2 vs ds) {i : Int} (h : atI ds i = some d) : ∃ v, atI vs i = some v ∧ Rp H2 v d := by
  unfold atI at h ⊢
  rw [r.len]
  cases e : ixN ds.length i with
  | none =>
    rw [e] at h
    cases h
  | some j =>
    rw [e] at h
    exact r.get h
theorem ed_ix (ha : EvD X a env H (.tuple ds)) (hb : EvD X b env H (.int i)) (h : atI ds i = some d) (hp : PlainIx b := by intro _ _; rfl) : EvD X (.Subscript a b pos) env H d := ⟨fun σ H1 e0 ok Q q =>
  ⟨_, pe_ix ix_tup pe_w pe_w hp, bin2 ha hb e0 ok fun v u H2 e2 r1 r2 => by
    cases r1 with
    | tup h1 q1 =>
    cases r2
    obtain ⟨w', e3, r3⟩ := atI_rp q1 h
    exact ⟨_, _, i, w', rfl, rfl, SqT.of h1, e3, q _ H2 e2 r3⟩⟩⟩
theorem ed_ixR (ha : EvR X a env H ds) (hb : EvD X b env H (.int i)) (h : atI ds i = some d) (hp : PlainIx b := by intro _ _; rfl) : EvD X (.Subscript a b pos) env H d := ⟨fun σ H1 e0 ok Q q =>
  ⟨_, pe_ix ix_list pe_w pe_w hp, ha.run σ H1 e0 ok _ fun l H2 e2 hl => hb.run σ H2 (e0.trans e2) (ok.mono e2.t) _ fun u H3 e3 r3 => by
    obtain ⟨vs, h1, q1⟩ := hl.ex e3
    cases r3
    obtain ⟨w', e4, r4⟩ := atI_rp q1 h
    exact ⟨_, _, i, w', rfl, rfl, SqL.of h1, e4, q _ H3 (e2.trans e3) r4⟩⟩⟩
def cutD (ds : List PyData) (lo hi : Option Int) : List PyData := (ds.drop (HT.sIx ds.length 0 lo)).take (HT.sIx ds.length ds.length hi - HT.sIx ds.length 0 lo)
theorem cut_rp {H2 : Hp} {vs : List V} (r : RpA H2 vs ds) (lo hi : Option Int) : RpA H2 (cutV vs lo hi) (cutD ds lo hi) := by
  unfold cutV cutD
  rw [r.len]
  exact (r.drop _).take _
/-- a part of a slice -/
structure EvO (X : Cx) (e : Option Expr) (env : Nv) (H : Hp) (o : Option Int) : Prop where
  run : ∀ σ H1, Ex H H1 → NvOk X H1 σ env → ∀ Q : Option Int → Hp → Prop, (∀ H2, Ex H1 H2 → Q o H2) → ∃ t, PO X e t ∧ t σ H1 Q
theorem po_w {X : Cx} {e : Option Expr} : PO X e (fun σ H Q => ∃ t, PO X e t ∧ t σ H Q) := ⟨fun pins s σ H Q I ⟨_, p, h⟩ => p.run pins s σ H Q I h⟩
theorem eo_none : EvO X none env H none := ⟨fun _ H1 _ _ _ q => ⟨_, po_none, q H1 (Ex.refl _)⟩⟩
theorem eo_some (h : EvD X e env H (.int i)) : EvO X (some e) env H (some i) := ⟨fun σ H1 e0 ok Q q => ⟨_, po_some pe_w, h.run σ H1 e0 ok _ fun v H2 e2 r => by
  cases r
  exact ⟨i, rfl, q H2 e2⟩⟩⟩
theorem ed_slice {lo hi : Option Expr} {l u : Option Int} {p2 : Pos} (ha : EvD X a env H (.tuple ds)) (hl : EvO X lo env H l) (hu : EvO X hi env H u) : EvD X (.Subscript a (.Slice lo hi none p2) pos) env H (.tuple (cutD ds l u)) := ⟨fun σ H1 e0 ok Q q =>
  ⟨_, pe_slice sl_tupA pe_w po_w po_w, ha.run σ H1 e0 ok _ fun v H2 e2 r2 => hl.run σ H2 (e0.trans e2) (ok.mono e2.t) _ fun H3 e3 => hu.run σ H3 ((e0.trans e2).trans e3) ((ok.mono e2.t).mono e3.t) _ fun H4 e4 => by
    cases r2 with
    | tup h1 q1 =>
    have h1' := e4 _ _ (e3 _ _ h1)
    have q1' := (q1.mono e3.t).mono e4.t
    have ex := (e2.trans e3).trans e4
    refine ⟨_, _, rfl, SqT.of h1', fun hw => ?_, fun hw pp hp => q _ _ (ex.trans (Ex.new hp)) (.tup upd_same ((cut_rp q1' l u).mono (Ex.new hp).t))⟩
    have e5 : cutD ds l u = ds := by
      unfold cutD
      rw [← q1.len, hw.1, hw.2]
      simp [q1.len]
    exact q _ H4 ex (.tup h1' (by rw [e5]; exact q1'))⟩⟩
end
end WK
/-! WKStm -/
set_option Elab.async false
set_option linter.all false
set_option maxRecDepth 100000
set_option maxHeartbeats 1000000
/-! Targets, statements, loops, comprehensions. -/
namespace WK
open PySem PySem.Spec PyProof.Rows L2

/-! ### targets -/
/-- x may be stored -/
structure LocN (X : Cx) (x : Str) : Prop where
  loc : Loc X.env.scope x
  fn : X.fn x = true ∨ X.env.scope.names.lookup x = some .local
theorem LocN.vis {X : Cx} {x : Str} (h : LocN X x) : Vis X.env.scope x := h.loc.elim .inl fun h => .inr (.inl h)
def locB (sc : Scope) (x : Str) : Bool := match sc.names.lookup x with
  | some .local => true
  | some .cell => true
  | _ => false
theorem locN {X : Cx} {sc : Scope} {x : Str} (hf : ∀ y, X.fn y = true) (hs : X.env.scope = sc) (h : locB sc x = true) : LocN X x := by
  unfold locB at h
  split at h <;> first
    | (rename_i e; exact ⟨by rw [hs]; first | exact .inl e | exact .inr e, .inl (hf x)⟩)
    | cases h
mutual
/-- what a target does with data: env, the stored names with their places, env behind -/
inductive Tgt : Expr → PyData → Nv → List (Str × Nat) → Nv → Prop
  | name {n : Str} {p : Pos} {d : PyData} {env env' : Nv} {i : Nat} : Put env i n (.d d) env' → Tgt (.Name n p) d env [(n, i)] env'
  | tup {ts : List Expr} {k : Nat} {p : Pos} {ds : List PyData} {env env' : Nv} {o : List (Str × Nat)} : TgtL ts ds env o env' → Tgt (.Tuple ts k p) (.tuple ds) env o env'
inductive TgtL : List Expr → List PyData → Nv → List (Str × Nat) → Nv → Prop
  | nil {env : Nv} : TgtL [] [] env [] env
  | cons {t : Expr} {ts : List Expr} {d : PyData} {ds : List PyData} {env env1 env2 : Nv} {o o2 : List (Str × Nat)} : Tgt t d env o env1 → TgtL ts ds env1 o2 env2 → TgtL (t :: ts) (d :: ds) env (o ++ o2) env2
end
theorem assign_each {t : Expr} {ts : List Expr} {n : Env} (h : plainE t = true) : assignEach (t :: ts) n = (false, assign t n) :: assignEach ts n := by
  cases t <;> first
    | rfl
    | cases h
/-- the slots but those at vs are as they were -/
def Off (vs : List Nat) (σ σ' : L2.St) : Prop := σ'.length = σ.length ∧ ∀ j, j ∉ vs → σ'[j]? = σ[j]?
theorem Off.refl {vs : List Nat} {σ : L2.St} : Off vs σ σ := ⟨rfl, fun _ _ => rfl⟩
theorem Off.trans {vs ws : List Nat} {σ σ1 σ2 : L2.St} (a : Off vs σ σ1) (b : Off ws σ1 σ2) : Off (vs ++ ws) σ σ2 := ⟨b.1.trans a.1, fun j hj => by
  rw [b.2 j fun z => hj (List.mem_append_right _ z), a.2 j fun z => hj (List.mem_append_left _ z)]⟩
theorem wipe_get (σ : L2.St) : ∀ (vs : List Nat) (j : Nat), (wipe σ vs)[j]? = if j ∈ vs ∧ j < σ.length then some none else σ[j]?
  | [], j => by simp [wipe]
  | v :: vs, j => by
    unfold wipe
    rw [List.getElem?_set]
    by_cases e : v = j
    · subst e
      rw [if_pos rfl, wipe_length]
      by_cases l : v < σ.length
      · rw [if_pos l, if_pos ⟨List.mem_cons_self, l⟩]
      · rw [if_neg l, if_neg (fun h => l h.2)]
        exact (List.getElem?_eq_none_iff.mpr (by omega)).symm
    · rw [if_neg e, wipe_get σ vs j]
      by_cases h : j ∈ vs ∧ j < σ.length
      · rw [if_pos h, if_pos ⟨List.mem_cons_of_mem _ h.1, h.2⟩]
      · rw [if_neg h, if_neg]
        rintro ⟨h1, h2⟩
        rcases List.mem_cons.mp h1 with z | z
        · exact e z.symm
        · exact h ⟨z, h2⟩
theorem Off.wipe {vs : List Nat} {σ σ' : L2.St} (h : Off vs (L2.wipe σ vs) σ') : L2.wipe σ' vs = L2.wipe σ vs := by
  have hl : σ'.length = σ.length := by rw [h.1, wipe_length]
  apply List.ext_getElem?
  intro j
  rw [wipe_get, wipe_get, hl]
  by_cases hj : j ∈ vs
  · by_cases l : j < σ.length
    · rw [if_pos ⟨hj, l⟩, if_pos ⟨hj, l⟩]
    · rw [if_neg (fun z => l z.2), if_neg (fun z => l z.2), List.getElem?_eq_none_iff.mpr (by omega), List.getElem?_eq_none_iff.mpr (by omega)]
  · rw [if_neg (fun z => hj z.1), if_neg (fun z => hj z.1), h.2 j hj, wipe_get, if_neg (fun z => hj z.1)]
section
variable {X : Cx} {k : Nat} {H : Hp}
mutual
theorem Tgt.run (hc : X.calm = true) (nd : X.N.Nodup) : ∀ {tg : Expr} {d : PyData} {env env' : Nv} {o : List (Str × Nat)}, Tgt tg d env o env' → ∀ {σ : L2.St} {v : V}, NvOk X H σ env → (∀ p ∈ o, LocN X p.1) → Rp H v d →
    plainE tg = true ∧ ∃ g, PG X tg g ∧ ∀ Q : L2.St → Hp → Prop, (∀ σ', NvOk X H σ' env' → Off (o.map (·.2)) σ σ' → Q σ' H) → g v σ H Q
  | _, _, env, _, _, .name (n := n) (i := i) p, σ, v, ok, hl, r => by
    have l := hl (n, i) List.mem_cons_self
    refine ⟨rfl, gName i, pg_name nd (by rw [ok.names]; exact p.name.1) l.loc l.fn, fun Q q => ?_⟩
    exact q _ (ok.put p r l.vis) ⟨List.length_set, fun j hj => by
      rw [List.getElem?_set, if_neg]
      intro e
      exact hj (by rw [← e]; exact List.mem_cons_self)⟩
  | _, _, env, _, _, .tup (ts := ts) (ds := ds) T, σ, v, ok, hl, r => by
    cases r with
    | tup h q =>
    obtain ⟨gs, hn, hst, hg, hq⟩ := TgtL.run hc nd T ok hl q
    refine ⟨rfl, gTup X.K ts.length gs, pg_tup hc hg hn hst, fun Q k => ⟨_, _, rfl, SqT.of h, ?_, hq Q k⟩⟩
    rw [q.len]
    exact T.len.symm
theorem TgtL.run (hc : X.calm = true) (nd : X.N.Nodup) : ∀ {ts : List Expr} {ds : List PyData} {env env' : Nv} {o : List (Str × Nat)}, TgtL ts ds env o env' → ∀ {σ : L2.St} {vs : List V}, NvOk X H σ env → (∀ p ∈ o, LocN X p.1) → RpA H vs ds →
    ∃ g, (assignEach ts X.env).length = ts.length ∧ (assignEach ts X.env).findIdx? (·.1) = none ∧ PGs X ts g ∧ ∀ Q : L2.St → Hp → Prop, (∀ σ', NvOk X H σ' env' → Off (o.map (·.2)) σ σ' → Q σ' H) → g vs σ H Q
  | _, _, _, _, _, .nil, σ, vs, ok, _, r => by
    cases r
    exact ⟨gNil, rfl, rfl, pgs_nil, fun Q q => ⟨rfl, q σ ok .refl⟩⟩
  | _, _, _, _, _, .cons (ts := ts) (o := o) (o2 := o2) (env1 := env1) (env2 := env2) T TL, σ, vs, ok, hl, r => by
    cases r with
    | @cons v vr d ds q qs =>
    obtain ⟨pl, g, hg, hq⟩ := Tgt.run hc nd T ok (fun p hp => hl p (List.mem_append_left _ hp)) q
    have e := assign_each (ts := ts) (n := X.env) pl
    -- the rest's targets, whatever the slots are by then
    have key : ∃ g2, (assignEach ts X.env).length = ts.length ∧ (assignEach ts X.env).findIdx? (·.1) = none ∧ PGs X ts g2 ∧ ∀ σ1, NvOk X H σ1 env1 → ∀ Q : L2.St → Hp → Prop, (∀ σ', NvOk X H σ' env2 → Off (o2.map (·.2)) σ1 σ' → Q σ' H) → g2 vr σ1 H Q := by
      refine ⟨fun vs σ1 H1 Q => ∃ g, PGs X ts g ∧ g vs σ1 H1 Q, ?_, ?_, ⟨fun pins s σ H vs us Q I r ⟨g, p, h⟩ => p.run pins s σ H vs us Q I r h⟩, fun σ1 ok1 Q q2 => ?_⟩
      · exact TL.plain.1
      · exact TL.plain.2
      · obtain ⟨g2, _, _, h3, h4⟩ := TgtL.run hc nd TL ok1 (fun p hp => hl p (List.mem_append_right _ hp)) qs
        exact ⟨g2, h3, h4 Q q2⟩
    obtain ⟨g2, h1, h2, h3, h4⟩ := key
    refine ⟨gCons g g2, by rw [e]; simp [h1], by rw [e]; simp [List.findIdx?_cons, h2], pgs_cons hg h3 (by rw [e]; rfl), fun Q q' => ⟨_, _, rfl, hq _ fun σ1 ok1 f1 => h4 σ1 ok1 Q fun σ2 ok2 f2 => q' σ2 ok2 ?_⟩⟩
    rw [List.map_append]
    exact f1.trans f2
theorem TgtL.plain : ∀ {ts : List Expr} {ds : List PyData} {env env' : Nv} {o : List (Str × Nat)}, TgtL ts ds env o env' → (assignEach ts X.env).length = ts.length ∧ (assignEach ts X.env).findIdx? (·.1) = none
  | _, _, _, _, _, .nil => ⟨rfl, rfl⟩
  | _, _, _, _, _, .cons (ts := ts) T TL => by
    have e := assign_each (ts := ts) (n := X.env) T.plain1
    obtain ⟨h1, h2⟩ := TL.plain
    exact ⟨by rw [e]; simp [h1], by rw [e]; simp [List.findIdx?_cons, h2]⟩
theorem Tgt.plain1 : ∀ {tg : Expr} {d : PyData} {env env' : Nv} {o : List (Str × Nat)}, Tgt tg d env o env' → plainE tg = true
  | _, _, _, _, _, .name _ => rfl
  | _, _, _, _, _, .tup _ => rfl
theorem TgtL.len : ∀ {ts : List Expr} {ds : List PyData} {env env' : Nv} {o : List (Str × Nat)}, TgtL ts ds env o env' → ts.length = ds.length
  | _, _, _, _, _, .nil => rfl
  | _, _, _, _, _, .cons _ TL => congrArg Nat.succ TL.len
end
/-- as one wish, whatever the slots -/
theorem Tgt.w {tg : Expr} {d : PyData} {env env' : Nv} {o : List (Str × Nat)} (T : Tgt tg d env o env') (hc : X.calm = true) (nd : X.N.Nodup) {σ : L2.St} {v : V} (ok : NvOk X H σ env) (hl : ∀ p ∈ o, LocN X p.1) (r : Rp H v d)
    {Q : L2.St → Hp → Prop} (q : ∀ σ', NvOk X H σ' env' → Off (o.map (·.2)) σ σ' → Q σ' H) : wG X tg v σ H Q := by
  obtain ⟨_, g, h1, h2⟩ := T.run hc nd ok hl r
  exact ⟨g, h1, h2 Q q⟩
end
end WK
/-! WKGo -/
set_option Elab.async false
set_option linter.all false
set_option maxRecDepth 100000
set_option maxHeartbeats 1000000
/-! Blocks, walks, comprehensions. -/
namespace WK
open PySem PySem.Spec PyProof.Rows L2
/-- a block, from names told by env, in any heap that H grows to -/
structure Go (X : Cx) (b : List Stmt) (env : Nv) (H : Hp) (D : Ends) : Prop where
  run : ∀ σ H1, Ex H H1 → NvOk X H1 σ env → wB X b D σ H1
theorem Go.mono {X : Cx} {b : List Stmt} {env : Nv} {H H' : Hp} {D : Ends} (e : Ex H H') (h : Go X b env H D) : Go X b env H' D := ⟨fun σ H1 e1 ok => h.run σ H1 (e.trans e1) ok⟩
/-- what is walked: it gives the items, one behind another; own: the lists that it reads -/
structure Iter (J : It) (H : Hp) (items : List PyData) (own : List Addr) : Prop where
  walk : Walk J items.length (fun H' => TLe H H' ∧ ∀ b ∈ own, H' b = H b) (fun i H' x H'' => Ex H' H'' ∧ ∃ d, items[i]? = some d ∧ Rp H'' x d)
structure EvI (X : Cx) (tg it : Expr) (env : Nv) (H : Hp) (items : List PyData) (own : List Addr) : Prop where
  run : ∀ σ H1, Ex H H1 → NvOk X H1 σ env → ∀ R : It → Hp → Prop, (∀ J H2 o, Ex H1 H2 → (∀ b ∈ o, (H1 b = none ∨ b ∈ own) ∧ ∃ u, H2 b = some u) → Iter J H2 items o → R J H2) → wI X tg it σ H1 R
section
variable {X : Cx} {k : Nat} {e a b c it tg : Expr} {es : List Expr} {env env' : Nv} {H : Hp} {D : Ends} {d x y : PyData} {ds items : List PyData} {pos p : Pos} {sc : Scope} {rest body : List Stmt} {own : List Addr}
theorem go_nil (h : ∀ σ H1, Ex H H1 → NvOk X H1 σ env → D.nx σ H1) : Go X [] env H D := ⟨fun σ H1 e0 ok => ⟨_, pss_nil, h σ H1 e0 ok⟩⟩
theorem go_ret (h : EvD X e env H d) (q : ∀ v H1, Ex H H1 → Rp H1 v d → D.rt v H1) : Go X (.Return (some e) p :: rest) env H D := ⟨fun σ H1 e0 ok =>
  ⟨_, pss_cons (ps_ret pe_w) pss_never, h.run σ H1 e0 ok _ fun v H2 e2 r => q v H2 (e0.trans e2) r⟩⟩
theorem go_retL (h : EvL X e env H ds) (q : ∀ pp H1, H pp = none → Ex H H1 → Lst H1 pp ds → D.rt (.ref pp) H1) : Go X (.Return (some e) p :: rest) env H D := ⟨fun σ H1 e0 ok =>
  ⟨_, pss_cons (ps_ret pe_w) pss_never, h.run σ H1 e0 ok _ fun v H2 hn e2 r => q v H2 (e0.back hn) (e0.trans e2) r⟩⟩
theorem go_retV {v : V} (h : EvV X e env H v) (q : ∀ H1, Ex H H1 → D.rt v H1) : Go X (.Return (some e) p :: rest) env H D := ⟨fun σ H1 e0 ok =>
  ⟨_, pss_cons (ps_ret pe_w) pss_never, h.run σ H1 e0 ok _ fun H2 e2 => q H2 (e0.trans e2)⟩⟩
theorem go_if {t : Bool} {els : List Stmt} (hc : EvT X c env H t) (h1 : t = true → Go X body env H { D with nx := wB X rest D }) (h2 : t = false → Go X els env H { D with nx := wB X rest D }) : Go X (.If c body els pos :: rest) env H D := ⟨fun σ H1 e0 ok =>
  ⟨_, pss_cons (ps_if pt_w pb_w pb_w) pb_w, hc.run σ H1 e0 ok _ fun H2 e2 => by
    cases t with
    | true => exact (h1 rfl).run σ H2 (e0.trans e2) (ok.mono e2.t)
    | false => exact (h2 rfl).run σ H2 (e0.trans e2) (ok.mono e2.t)⟩⟩
/-- an if whose branch does not go on, without else -/
theorem go_when {t : Bool} (hc : EvT X c env H t) (h1 : t = true → Go X body env H { D with nx := wB X rest D }) (h2 : t = false → Go X rest env H D) : Go X (.If c body [] pos :: rest) env H D :=
  go_if hc h1 fun ht => go_nil fun σ H1 e0 ok => (h2 ht).run σ H1 e0 ok
theorem go_expr (h : EvD X e env H d) (k : Go X rest env H D) (hs : swapsWith e none pos.line X.env = pure false := by rfl) : Go X (.Expr e pos :: rest) env H D := ⟨fun σ H1 e0 ok =>
  ⟨_, pss_cons (ps_expr pe_w hs) pb_w, h.run σ H1 e0 ok _ fun v H2 e2 _ => k.run σ H2 (e0.trans e2) (ok.mono e2.t)⟩⟩
theorem go_set {i : Nat} {n : Str} {p' : Pos} (A : Hs X k) (h : EvD X e env H d) (hp : Put env i n (.d d) env') (hl : LocN X n) (q : Go X rest env' H D) (hs : swapsWith e (some (.Name n p')) pos.line X.env = pure false := by rfl) :
    Go X (.Assign [.Name n p'] e pos :: rest) env H D := ⟨fun σ H1 e0 ok =>
  ⟨_, pss_cons (ps_set A.nd (by rw [ok.names]; exact hp.name.1) hl.loc pe_w hs hl.fn) pb_w, h.run σ H1 e0 ok _ fun v H2 e2 r => q.run _ H2 (e0.trans e2) ((ok.mono e2.t).put hp r hl.vis)⟩⟩
theorem go_setL {i : Nat} {n : Str} {p' : Pos} {nv : Addr → Nv} (A : Hs X k) (h : EvL X e env H ds) (hp : ∀ a, Put env i n (.v (.ref a)) (nv a)) (hl : LocN X n) (q : ∀ a H1, H a = none → Ex H H1 → Lst H1 a ds → Go X rest (nv a) H1 D)
    (hs : swapsWith e (some (.Name n p')) pos.line X.env = pure false := by rfl) : Go X (.Assign [.Name n p'] e pos :: rest) env H D := ⟨fun σ H1 e0 ok =>
  ⟨_, pss_cons (ps_set A.nd (by rw [ok.names]; exact (hp 0).name.1) hl.loc pe_w hs hl.fn) pb_w, h.run σ H1 e0 ok _ fun v H2 hn e2 r => (q v H2 (e0.back hn) (e0.trans e2) r).run _ H2 (Ex.refl _) ((ok.mono e2.t).put (hp v) rfl hl.vis)⟩⟩
/-- to names of a tuple -/
theorem go_unp {o : List (Str × Nat)} {ts : List Expr} {j : Nat} {p' : Pos} (A : Hs X k) (h : EvD X e env H d) (T : Tgt (.Tuple ts j p') d env o env') (hl : ∀ q ∈ o, LocN X q.1) (q : Go X rest env' H D)
    (hs : swapsWithSole [.Tuple ts j p'] e pos.line X.env = pure false := by rfl) (hw : swappedStores [.Tuple ts j p'] e X.env = pure none := by rfl) :
    Go X (.Assign [.Tuple ts j p'] e pos :: rest) env H D := ⟨fun σ H1 e0 ok =>
  ⟨_, pss_cons (ps_asg pe_w pg_w hs hw) pb_w, h.run σ H1 e0 ok _ fun v H2 e2 r => T.w A.calm A.nd (ok.mono e2.t) hl r fun σ' ok' _ => q.run _ H2 (e0.trans e2) ok'⟩⟩

/-! ### what is walked -/
theorem walk_mono {J : It} {n : Nat} {G G' : Hp → Prop} {Y Y' : Nat → Hp → V → Hp → Prop} (w : Walk J n G Y) (hg : ∀ H, G' H → G H) (hy : ∀ i H x H', i < n → G' H → Y i H x H' → Y' i H x H') : Walk J n G' Y' := w.mono hg hy
theorem iter_tup {K : PySem.W.Frag} {a : Addr} {xs : List V} (h : H a = some (.tup xs)) (r : RpA H xs ds) : Iter (Itt K a) H ds [] := ⟨by
  rw [← r.len]
  refine walk_mono walk_tup (fun H' g => SqT.of (g.1 _ _ h)) fun i H' x H'' hi g y => ?_
  obtain ⟨e, z⟩ := y
  subst e
  obtain ⟨d, e2, r2⟩ := r.at z
  exact ⟨Ex.refl _, d, e2, r2.mono g.1⟩⟩
theorem iter_lst {K : PySem.W.Frag} {a : Addr} (h : Lst H a ds) : Iter (Itl K a) H ds [a] := ⟨by
  obtain ⟨xs, h, r⟩ := h
  rw [← r.len]
  refine walk_mono walk_list (fun H' g => SqL.of ((g.2 a List.mem_cons_self).trans h)) fun i H' x H'' hi g y => ?_
  obtain ⟨e, z⟩ := y
  subst e
  obtain ⟨d, e2, r2⟩ := r.at z
  exact ⟨Ex.refl _, d, e2, r2.mono g.1⟩⟩
theorem ei_tup (h : EvD X it env H (.tuple ds)) : EvI X tg it env H ds [] := ⟨fun σ H1 e0 ok R q => ⟨_, pi_tup pe_w, h.run σ H1 e0 ok _ fun v H2 e2 r => by
  cases r with
  | tup h1 r1 => exact ⟨_, rfl, ⟨_, SqT.of h1⟩, q _ H2 [] e2 (fun b hb => by cases hb) (iter_tup h1 r1)⟩⟩⟩
theorem ei_lst {l : Addr} (h : EvV X it env H (.ref l)) (hl : Lst H l ds) : EvI X tg it env H ds [l] := ⟨fun σ H1 e0 ok R q => ⟨_, pi_list pe_w, h.run σ H1 e0 ok _ fun H2 e2 => by
  have hl2 := hl.ex (e0.trans e2)
  obtain ⟨vs, h1, r1⟩ := id hl2
  exact ⟨l, rfl, ⟨_, SqL.of h1⟩, q _ H2 [l] e2 (fun b hb => ⟨.inr hb, .lst vs, by
    have e : b = l := by simpa using hb
    rw [e]; exact h1⟩) (iter_lst hl2)⟩⟩⟩
theorem ei_new (h : EvL X it env H ds) : EvI X tg it env H ds [] := ⟨fun σ H1 e0 ok R q => ⟨_, pi_list pe_w, h.run σ H1 e0 ok _ fun l H2 hn e2 hl => by
  obtain ⟨vs, h1, r1⟩ := id hl
  exact ⟨l, rfl, ⟨_, SqL.of h1⟩, q _ H2 [l] e2 (fun b hb => by
    have e : b = l := by simpa using hb
    exact ⟨.inl (by rw [e]; exact hn), .lst vs, by rw [e]; exact h1⟩) (iter_lst hl)⟩⟩⟩
def rangeD (n : Int) : List PyData := (List.range n.toNat).map fun (i : Nat) => .int (i : Int)
theorem ei_range {n : Int} (A : Hs X k) (hs : X.env.scope = sc) (hg : glB sc "range" = true) (h : EvD X a env H (.int n)) (hn : 0 ≤ n ∧ n ≤ 1000000) (hp : plainE a = true := by rfl) : EvI X tg (.Call (.Name "range" p) [a] [] pos) env H (rangeD n) [] := ⟨fun σ H1 e0 ok R q =>
  ⟨_, pi_range1 (gl_of hs hg) (A.t.free (by decide +kernel)) pa_w (star_of hp), ((ea_cons h ea_nil hp).run σ H1 e0 ok _ fun vs H2 e2 r => by
    cases r with
    | cons r1 r2 =>
    cases r1
    cases r2
    refine ⟨n, rfl, by omega, by omega, q _ H2 [] e2 (fun b hb => by cases hb) ⟨?_⟩⟩
    have hl : (rangeD n).length = n.toNat := by unfold rangeD; simp
    rw [hl]
    refine walk_mono walk_range (fun _ _ => True.intro) fun i H' x H'' hi g y => ?_
    obtain ⟨e, z⟩ := y
    subst e z
    refine ⟨Ex.refl _, .int (i : Int), ?_, by show Rp H'' (.int (0 + (i : Int))) _; rw [Int.zero_add]; exact .int _⟩
    unfold rangeD
    rw [List.getElem?_map, List.getElem?_range hi]
    rfl)⟩⟩
def zipD (xs ys : List PyData) : List PyData := List.zipWith (fun x y => .tuple [x, y]) xs ys
theorem ei_zip {xs ys : List PyData} {ts : List Expr} {j : Nat} {tp : Pos} (A : Hs X k) (hs : X.env.scope = sc) (hg : glB sc "zip" = true) (ha : EvD X a env H (.tuple xs)) (hb : EvD X b env H (.tuple ys)) (hp : plainE a = true := by rfl) (hp2 : plainE b = true := by rfl) :
    EvI X (.Tuple ts j tp) (.Call (.Name "zip" p) [a, b] [] pos) env H (zipD xs ys) [] := ⟨fun σ H1 e0 ok R q =>
  ⟨_, RZ.pi_zipA (gl_of hs hg) (A.t.free (by decide +kernel)) pa_w (star_of hp) (plain_of (by simp [hp2])), ((ea_cons ha (ea_cons hb ea_nil hp2) hp).run σ H1 e0 ok _ fun vs H2 e2 r => by
    cases r with
    | cons r1 r2 =>
    cases r2 with
    | cons r2 r3 =>
    cases r3
    cases r1 with
    | @tup al vl _ h1 q1 =>
    cases r2 with
    | @tup bl ul _ h2 q2 =>
    refine ⟨al, bl, vl, ul, rfl, .inr ⟨SqT.of h1, SqT.of h2, q _ H2 [] e2 (fun b hb => by cases hb) ⟨?_⟩⟩⟩
    have hl : (zipD xs ys).length = min vl.length ul.length := by unfold zipD; rw [List.length_zipWith, q1.len, q2.len]
    have hz : ∀ {H' : Hp}, TLe H2 H' → SqT X.K H' al vl ∧ SqT X.K H' bl ul := fun g => ⟨SqT.of (g _ _ h1), SqT.of (g _ _ h2)⟩
    rw [hl]
    refine ⟨fun i H' hi g => ?_, fun H' g => ?_, fun i H' v H'' hi g y => ?_⟩
    · obtain ⟨s1, s2⟩ := hz g.1
      exact ⟨vl, ul, vl[i]'(by omega), ul[i]'(by omega), s1, s2, List.getElem?_eq_getElem (by omega), List.getElem?_eq_getElem (by omega)⟩
    · obtain ⟨s1, s2⟩ := hz g.1
      exact ⟨vl, ul, s1, s2, by omega⟩
    · obtain ⟨s1, s2⟩ := hz g.1
      obtain ⟨T, x, z, e3, e4, e5, e6, e7⟩ := y
      subst e3 e5
      obtain ⟨dx, k1, m1⟩ := q1.at (e6 vl s1)
      obtain ⟨dz, k2, m2⟩ := q2.at (e7 ul s2)
      have ex := Ex.new (o := .tup [x, z]) e4
      refine ⟨ex, .tuple [dx, dz], ?_, .tup upd_same (.cons (m1.mono (g.1.trans ex.t)) (.cons (m2.mono (g.1.trans ex.t)) .nil))⟩
      unfold zipD
      rw [List.getElem?_zipWith, k1, k2])⟩⟩

/-! ### loops -/
/-- a for: P by the turn, the names and the heap -/
theorem go_for (A : Hs X k) (hi : EvI X tg it env H items own)
    (h : ∀ (H2 : Hp) (o : List Addr), Ex H H2 → (∀ b ∈ o, (H b = none ∨ b ∈ own) ∧ ∃ u, H2 b = some u) → ∃ P : Nat → Nv → Hp → Prop, P 0 env H2 ∧ (∀ i nv H', P i nv H' → TLe H2 H' ∧ ∀ b ∈ o, H' b = H2 b) ∧
      (∀ i d nv H', items[i]? = some d → P i nv H' → ∃ w nv2, Tgt tg d nv w nv2 ∧ (∀ q ∈ w, LocN X q.1) ∧
        ∀ H3, Ex H' H3 → Go X body nv2 H3 { D with nx := fun σ H4 => ∃ nv3, NvOk X H4 σ nv3 ∧ P (i + 1) nv3 H4, ct := fun σ H4 => ∃ nv3, NvOk X H4 σ nv3 ∧ P (i + 1) nv3 H4, bk := wB X rest D }) ∧
      ∀ nv H', P items.length nv H' → Go X rest nv H' D)
    (hs : ∀ x, foldedSetIterable it X.env x = pure x := by intro _; rfl) : Go X (.For tg it body [] pos :: rest) env H D := ⟨fun σ H1 e0 ok => by
  refine ⟨_, pss_cons (ps_for (by rw [A.xe]; exact PassesOwn.never) A.calm pi_w pg_w pb_w hs) pb_w, hi.run σ H1 e0 ok _ fun J H2 o e2 ho I => ?_⟩
  obtain ⟨P, p0, pk, pt, pd⟩ := h H2 o (e0.trans e2) fun b hb => ⟨(ho b hb).1.imp (fun z => e0.back z) id, (ho b hb).2⟩
  refine for_it I.walk (fun i σ' H' => ∃ nv, NvOk X H' σ' nv ∧ P i nv H') ⟨env, ok.mono e2.t, p0⟩ (fun i σ' H' _ ⟨nv, _, q⟩ => pk i nv H' q) ?_ ?_
  · rintro i x σ' H' H'' hi ⟨nv, okk, q⟩ ⟨ex, d, hd, r⟩
    obtain ⟨w, nv2, T, hl, g⟩ := pt i d nv H' hd q
    exact T.w A.calm A.nd (okk.mono ex.t) hl r fun σ3 ok3 _ => (g H'' ex).run σ3 H'' (Ex.refl _) ok3
  · rintro σ' H' ⟨nv, okk, q⟩
    exact (pd nv H' q).run σ' H' (Ex.refl _) okk⟩
/-- a wish may be weakened -/
theorem wB_mono {D' : Ends} {b : List Stmt} {σ : L2.St} {H1 : Hp} (h : wB X b D σ H1) (n : ∀ σ H, D.nx σ H → D'.nx σ H) (r : ∀ v H, D.rt v H → D'.rt v H) (bk : ∀ σ H, D.bk σ H → D'.bk σ H) (ct : ∀ σ H, D.ct σ H → D'.ct σ H) : wB X b D' σ H1 := by
  obtain ⟨t, p, q⟩ := h
  refine ⟨fun D1 σ1 H2 => ∃ D2 : Ends, ((∀ σ H, D2.nx σ H → D1.nx σ H) ∧ (∀ v H, D2.rt v H → D1.rt v H) ∧ (∀ σ H, D2.bk σ H → D1.bk σ H) ∧ (∀ σ H, D2.ct σ H → D1.ct σ H)) ∧ t D2 σ1 H2, ⟨?_⟩, D, ⟨n, r, bk, ct⟩, q⟩
  intro pins s σ2 H2 D1 I ⟨D2, ⟨n1, r1, b1, c1⟩, q1⟩
  refine thn (p.run pins s σ2 H2 D2 I q1) fun f s1 hf => ?_
  cases f with
  | next =>
    obtain ⟨σ', H', I', q⟩ := hf
    exact ⟨σ', H', I', n1 _ _ q⟩
  | ret v =>
    obtain ⟨v', σ', H', I', rv, q⟩ := hf
    exact ⟨v', σ', H', I', rv, r1 _ _ q⟩
  | brk =>
    obtain ⟨σ', H', I', q⟩ := hf
    exact ⟨σ', H', I', b1 _ _ q⟩
  | cont =>
    obtain ⟨σ', H', I', q⟩ := hf
    exact ⟨σ', H', I', c1 _ _ q⟩
/-- a for that changes no object: P by the turn and the names -/
theorem go_forP (P : Nat → Nv → Prop) (A : Hs X k) (hi : EvI X tg it env H items own) (h0 : P 0 env)
    (turn : ∀ i d nv H', items[i]? = some d → P i nv → Ex H H' → ∃ w nv2, Tgt tg d nv w nv2 ∧ (∀ q ∈ w, LocN X q.1) ∧
      Go X body nv2 H' { D with nx := fun σ H4 => Ex H' H4 ∧ ∃ nv3, NvOk X H4 σ nv3 ∧ P (i + 1) nv3, ct := fun σ H4 => Ex H' H4 ∧ ∃ nv3, NvOk X H4 σ nv3 ∧ P (i + 1) nv3, bk := wB X rest D })
    (done : ∀ nv H', Ex H H' → P items.length nv → Go X rest nv H' D) (hs : ∀ x, foldedSetIterable it X.env x = pure x := by intro _; rfl) : Go X (.For tg it body [] pos :: rest) env H D := by
  refine go_for A hi (fun H2 o e2 ho => ⟨fun i nv H' => Ex H2 H' ∧ P i nv, ⟨Ex.refl _, h0⟩, fun i nv H' q => ⟨q.1.t, fun b hb => ?_⟩, fun i d nv H' hd q => ?_, fun nv H' q => done nv H' (e2.trans q.1) q.2⟩) hs
  · obtain ⟨u, hu⟩ := (ho b hb).2
    rw [hu]
    exact q.1 _ _ hu
  · obtain ⟨w, nv2, T, hl, g⟩ := turn i d nv H' hd q.2 (e2.trans q.1)
    refine ⟨w, nv2, T, hl, fun H3 e3 => ⟨fun σ H4 e4 ok => ?_⟩⟩
    exact wB_mono (g.run σ H4 (e3.trans e4) ok) (fun σ' H' ⟨e5, nv3, ok3, p3⟩ => ⟨nv3, ok3, (q.1.trans e5), p3⟩) (fun _ _ z => z) (fun _ _ z => z) (fun σ' H' ⟨e5, nv3, ok3, p3⟩ => ⟨nv3, ok3, (q.1.trans e5), p3⟩)
end
end WK
/-! WKLc -/
set_option Elab.async false
set_option linter.all false
set_option maxRecDepth 100000
set_option maxHeartbeats 1000000
/-! List comprehensions, calls, built-ins. -/
namespace WK
open PySem PySem.Spec PyProof.Rows L2
/-- what a comprehension's block knows of the names: the captured ones, its own not yet -/
inductive Cap (sc : Scope) (own : List Nat) : Nat → Nv → Nv → Prop
  | nil {i : Nat} : Cap sc own i [] []
  | keep {i : Nat} {x : Str} {s : Sl} {e e' : Nv} : visB sc x = true → own.contains i = false → Cap sc own (i + 1) e e' → Cap sc own i ((x, s) :: e) ((x, s) :: e')
  | drop {i : Nat} {x : Str} {s : Sl} {e e' : Nv} : Cap sc own (i + 1) e e' → Cap sc own i ((x, s) :: e) ((x, .un) :: e')
theorem Cap.names {sc : Scope} {own : List Nat} : ∀ {i : Nat} {e e' : Nv}, Cap sc own i e e' → e'.map (·.1) = e.map (·.1)
  | _, _, _, .nil => rfl
  | _, _, _, .keep _ _ c => by simp [c.names]
  | _, _, _, .drop c => by simp [c.names]
theorem Cap.vis {sc : Scope} {own : List Nat} : ∀ {i : Nat} {e e' : Nv}, Cap sc own i e e' → ∀ p ∈ e', p.2 ≠ .un → Vis sc p.1
  | _, _, _, .nil, p, h, _ => by cases h
  | _, _, _, .keep hv _ c, p, h, hn => by
    rcases List.mem_cons.mp h with e | h
    · rw [e]
      exact (visN hv).vis
    · exact c.vis p h hn
  | _, _, _, .drop c, p, h, hn => by
    rcases List.mem_cons.mp h with e | h
    · rw [e] at hn
      exact absurd rfl hn
    · exact c.vis p h hn
theorem Cap.sl {sc : Scope} {own : List Nat} {H : Hp} : ∀ {i : Nat} {e e' : Nv} {σ τ : L2.St}, Cap sc own i e e' → NvA H σ e → τ.length = σ.length → (∀ j, own.contains (i + j) = false → τ[j]? = σ[j]?) → NvA H τ e'
  | _, _, _, _, τ, .nil, .nil, hl, _ => by
    cases τ with
    | nil => exact .nil
    | cons _ _ => cases hl
  | i, _, _, _, τ, .keep (s := s) _ ho c, .cons (o := o) q r, hl, h => by
    cases τ with
    | nil => cases hl
    | cons t τ =>
      have e : t = o := by
        have := h 0 (by simpa using ho)
        simpa using this
      subst e
      exact .cons q (c.sl r (by simpa using hl) fun j hj => by
        have := h (j + 1) (by rw [← Nat.add_assoc, Nat.add_right_comm]; exact hj)
        simpa using this)
  | i, _, _, _, τ, .drop c, .cons q r, hl, h => by
    cases τ with
    | nil => cases hl
    | cons t τ =>
      exact .cons (by cases t <;> exact True.intro) (c.sl r (by simpa using hl) fun j hj => by
        have := h (j + 1) (by rw [← Nat.add_assoc, Nat.add_right_comm]; exact hj)
        simpa using this)
/-- the tests of a clause -/
def wTs (X : Cx) (ifs : List Expr) : TT := fun σ H Q => ∃ t, PTs X ifs t ∧ t σ H Q
theorem pts_w {X : Cx} {ifs : List Expr} : PTs X ifs (wTs X ifs) := ⟨fun pins s σ H Q I ⟨_, p, h⟩ => p.run pins s σ H Q I h⟩
structure EvTs (X : Cx) (ifs : List Expr) (env : Nv) (H : Hp) (b : Bool) : Prop where
  run : ∀ σ H1, Ex H H1 → NvOk X H1 σ env → ∀ Q : Bool → Hp → Prop, (∀ H2, Ex H1 H2 → Q b H2) → wTs X ifs σ H1 Q
def ownC (sc scope : Scope) (N : List Str) (own : List (Str × Nat)) : Bool := blkC N sc scope own && own.all fun p => locB scope p.1
section
variable {X : Cx} {k : Nat} {e a b c it tg elt : Expr} {es ifs : List Expr} {env env1 env2 : Nv} {H : Hp} {d x y : PyData} {ds items : List PyData} {pos p : Pos} {sc scope : Scope} {own : List (Str × Nat)} {owx : List Addr}
theorem ts_nil : EvTs X [] env H true := ⟨fun σ H1 e0 ok Q q => ⟨_, pts_nil, q H1 (Ex.refl _)⟩⟩
theorem ts_one {t : Bool} (h : EvT X c env H t) : EvTs X [c] env H t := ⟨fun σ H1 e0 ok Q q => ⟨_, pts_one pt_w, h.run σ H1 e0 ok Q q⟩⟩
/-- the block's context -/
theorem Hs.blk (A : Hs X k) (s0 : Shared) (H0 : Hp) (cl : List (Str × Addr)) (C : Addr) (fp : List Addr) : Hs (X.blk s0 H0 scope (compEnvC scope cl C X.env) fp) k := ⟨A.t, A.room, A.calm, A.nd, rfl⟩
theorem blk_loc {s0 : Shared} {H0 : Hp} {cl : List (Str × Addr)} {C : Addr} {fp : List Addr} (h : own.all (fun p => locB scope p.1) = true) : ∀ p ∈ own, LocN (X.blk s0 H0 scope (compEnvC scope cl C X.env) fp) p.1 := fun p hp => by
  have h1 := List.all_eq_true.mp h p hp
  unfold locB at h1
  have key : ∀ k, k ≠ NameKind.free → scope.names.lookup p.1 = some k → (relabel scope X.env).names.lookup p.1 = some k := fun k hk e => lookup_relS_keep (sc := X.env.scope) hk e
  split at h1 <;> first
    | (rename_i e; exact ⟨.inl (key _ (by decide) e), .inr (key _ (by decide) e)⟩)
    | (rename_i e; exact ⟨.inr (key _ (by decide) e), .inl (by show (scope.names.lookup p.1 == some .cell) = true; rw [e]; rfl)⟩)
    | cases h1
/-- in whichever block -/
def gB (X : Cx) (scope : Scope) (tg : Expr) : TG := fun v σ H Q => ∀ s0 H0 C cl fp, wG (X.blk s0 H0 scope (compEnvC scope cl C X.env) fp) tg v σ H Q
def tB (X : Cx) (scope : Scope) (ifs : List Expr) : TT := fun σ H Q => ∀ s0 H0 C cl fp, wTs (X.blk s0 H0 scope (compEnvC scope cl C X.env) fp) ifs σ H Q
def eB (X : Cx) (scope : Scope) (elt : Expr) : TE := fun σ H Q => ∀ s0 H0 C cl fp, wE (X.blk s0 H0 scope (compEnvC scope cl C X.env) fp) elt σ H Q
theorem pgB (s0 : Shared) (H0 : Hp) (C : Addr) (cl : List (Str × Addr)) (fp : List Addr) : PG (X.blk s0 H0 scope (compEnvC scope cl C X.env) fp) tg (gB X scope tg) := ⟨fun pins s σ H v u Q I r h => pg_w.run pins s σ H v u Q I r (h s0 H0 C cl fp)⟩
theorem ptB (s0 : Shared) (H0 : Hp) (C : Addr) (cl : List (Str × Addr)) (fp : List Addr) : PTs (X.blk s0 H0 scope (compEnvC scope cl C X.env) fp) ifs (tB X scope ifs) := ⟨fun pins s σ H Q I h => pts_w.run pins s σ H Q I (h s0 H0 C cl fp)⟩
theorem peB (s0 : Shared) (H0 : Hp) (C : Addr) (cl : List (Str × Addr)) (fp : List Addr) : PE (X.blk s0 H0 scope (compEnvC scope cl C X.env) fp) elt (eB X scope elt) := ⟨fun pins s σ H Q I h => pe_w.run pins s σ H Q I (h s0 H0 C cl fp)⟩
theorem NvOk.to {Y Z : Cx} {H : Hp} {σ : L2.St} (h : NvOk Y H σ env) (h1 : Z.N = Y.N) (h2 : Z.env.scope = Y.env.scope) : NvOk Z H σ env := ⟨h1.trans h.names, h.sl, by rw [h2]; exact h.vis⟩
/-- [elt for tg in it if ..]: t and f by the item; its reading -/
theorem lc_run (t : PyData → Bool) (f : PyData → PyData) (A : Hs X k) (hs : X.env.scope = sc) (hi : EvI X tg it env H items owx) (hz : items.length ≤ 100000) {N : List Str} (hN : env.map (·.1) = N) (ok : ownC sc scope N own = true) (cap : Cap (relS scope sc) (own.map (·.2)) 0 env env1)
    (turn : ∀ d ∈ items, ∃ env2, Tgt tg d env1 own env2 ∧ ∀ X', Hs X' k → X'.env.scope = relS scope sc → EvTs X' ifs env2 H (t d) ∧ (t d = true → EvD X' elt env2 H (f d)))
    {σ : L2.St} {H1 : Hp} (e0 : Ex H H1) (okk : NvOk X H1 σ env) {Q : VK} (q : ∀ p H2, H1 p = none → Ex H1 H2 → Lst H2 p ((items.filter t).map f) → Q (.ref p) H2) : BlkOk X.N X.env.scope scope own ∧ tLc (wI X tg it) (gB X scope tg) (tB X scope ifs) (eB X scope elt) (own.map (·.2)) σ H1 Q := by
  subst hs hN
  obtain ⟨ok1, ok2⟩ := Bool.and_eq_true_iff.mp ok
  rw [← okk.names] at ok1
  refine ⟨blkOk_by ok1, ?_⟩
  refine hi.run σ H1 e0 okk _ fun J H2 o e2 ho I => fun Dl hD => ?_
  have hex := e0.trans e2
  refine lc_it (g := gB X scope tg) (tt := tB X scope ifs) (te := eB X scope elt) (vs := own.map (·.2)) (σ := σ) (Qd := Q (.ref Dl)) I.walk (fun i H' => Ex H2 H' ∧ Lst H' Dl (((items.take i).filter t).map f)) ⟨Ex.new hD, [], upd_same, .nil⟩ (fun i H' _ p => ⟨p.1.t, fun b hb => ?_⟩) ?_ (fun H' p => ?_)
  · obtain ⟨u, hu⟩ := (ho b hb).2
    rw [hu]
    exact p.1 _ _ hu
  · rintro i x H' H'' hi' ⟨p1, p2⟩ ⟨ex, d, hd, r⟩
    have hmem : d ∈ items := List.mem_of_getElem? hd
    have hEx : Ex H H'' := (hex.trans p1).trans ex
    have take1 : items.take (i + 1) = items.take i ++ [d] := by rw [List.take_add_one, hd]; rfl
    obtain ⟨env2, T, tr⟩ := turn d hmem
    intro s0 H0 C cl fp
    have nvok : NvOk (X.blk s0 H0 scope (compEnvC scope cl C X.env) fp) H'' (wipe σ (own.map (·.2))) env1 :=
      ⟨okk.names.trans cap.names.symm, cap.sl (okk.sl.mono ((e2.trans p1).trans ex).t) (wipe_length _ _) (fun j hj => by
        rw [wipe_get, if_neg]
        rintro ⟨z, _⟩
        rw [Nat.zero_add, List.contains_iff_mem.mpr z] at hj
        cases hj), cap.vis⟩
    refine T.w (X := X.blk s0 H0 scope (compEnvC scope cl C X.env) fp) A.calm A.nd nvok (blk_loc ok2) r fun σ2 ok3 off => ⟨off.wipe, ?_⟩
    intro s1 H5 C1 cl1 fp1
    obtain ⟨tr1, _⟩ := tr _ (A.blk s1 H5 cl1 C1 fp1) rfl
    refine tr1.run σ2 H'' hEx (ok3.to rfl rfl) _ fun H3 e3 => ?_
    have hl : ∀ H4, Ex H' H4 → Lst H4 Dl (((items.take i).filter t).map f) := fun H4 e4 => p2.ex e4
    cases ht : t d with
    | true =>
      rw [if_pos rfl]
      intro s6 H6 C6 cl6 fp6
      obtain ⟨_, tr2⟩ := tr _ (A.blk s6 H6 cl6 C6 fp6) rfl
      refine (tr2 ht).run σ2 H3 (hEx.trans e3) (NvOk.mono e3.t (NvOk.to (Z := X.blk s6 H6 scope (compEnvC scope cl6 C6 X.env) fp6) ok3 rfl rfl)) _ fun y H4 e4 r4 => ?_
      obtain ⟨acc, h1, h2⟩ := hl H4 ((ex.trans e3).trans e4)
      have hfree : H2 Dl = none := hD
      refine ⟨acc, h1, ?_, fun b u hb => ?_, acc ++ [y], upd_same, ?_⟩
      · have := h2.len
        rw [this, List.length_map]
        have h5 := List.length_filter_le t (items.take i)
        rw [List.length_take] at h5
        have h6 : sizeLine = 16777216 := sizeLine_eq
        omega
      · rw [upd_ne (ne_of_none hb hfree)]
        exact e4 _ _ (e3 _ _ (ex _ _ (p1 _ _ hb)))
      · rw [take1, List.filter_append, List.map_append]
        have h7 : ([d].filter t).map f = [f d] := by simp [ht]
        rw [h7]
        refine (h2.snoc r4).mono (TLe.upd fun xs z => ?_)
        rw [h1] at z
        cases z
    | false =>
      rw [if_neg (by decide)]
      refine ⟨(p1.trans ex).trans e3, ?_⟩
      rw [take1, List.filter_append, List.map_append]
      have h7 : ([d].filter t).map f = [] := by simp [ht]
      rw [h7, List.append_nil]
      exact hl H3 (ex.trans e3)
  · rw [List.take_of_length_le (Nat.le_refl _)] at p
    exact q Dl H' (e2.back hD) (e2.trans p.1) p.2
/-- as a value -/
theorem el_lc (t : PyData → Bool) (f : PyData → PyData) (A : Hs X k) (hs : X.env.scope = sc) (hi : EvI X tg it env H items owx) (hz : items.length ≤ 100000) {N : List Str} (hN : env.map (·.1) = N) (ok : ownC sc scope N own = true) (cap : Cap (relS scope sc) (own.map (·.2)) 0 env env1)
    (turn : ∀ d ∈ items, ∃ env2, Tgt tg d env1 own env2 ∧ ∀ X', Hs X' k → X'.env.scope = relS scope sc → EvTs X' ifs env2 H (t d) ∧ (t d = true → EvD X' elt env2 H (f d)))
    (hf : ∀ x, foldedSetIterable it X.env x = pure x := by intro _; rfl) : EvL X (.ListComp elt [⟨tg, it, ifs, 0⟩] scope pos) env H ((items.filter t).map f) := ⟨fun σ H1 e0 okk Q q => by
  obtain ⟨b, r⟩ := lc_run t f A hs hi hz hN ok cap turn e0 okk q
  exact ⟨_, pe_lc (g := gB X scope tg) (tt := tB X scope ifs) (te := eB X scope elt) A.calm A.nd pi_w b pgB ptB peB hf, r⟩⟩
def fnKindL (sc : Scope) : Bool := match sc.kind with
  | .function => true
  | _ => false
/-- may y = [..] be swapped with its store -/
def swL (sc scope : Scope) (n : Str) (p q : Pos) : Bool := fnKindL sc && decide (sc.names.lookup n = some .local) && decide (q.line = p.line) && !(scope.names.any fun (m, k) => m == n && (k == .local || k == .cell))
theorem swL_of {n : Str} {gs : List Comprehension} {q : Pos} {ln : Nat} (hs : X.env.scope = sc) (h : swL sc scope n pos q = true) : swapsWith (.ListComp elt gs scope pos) (some (.Name n q)) ln X.env = pure true := by
  unfold swL at h
  simp only [Bool.and_eq_true, Bool.not_eq_true', decide_eq_true_eq] at h
  obtain ⟨⟨⟨h1, h2⟩, h3⟩, h4⟩ := h
  have hk : sc.kind = .function := by
    unfold fnKindL at h1
    split at h1
    · assumption
    · cases h1
  have hb : X.env.blockKind = .function := by
    unfold Env.blockKind
    rw [hs, hk]
    rfl
  have k1 : X.env.kindOf n = some .local := by
    unfold Env.kindOf
    rw [hs]
    exact h2
  unfold swapsWith
  simp only [pure_bind, hb, k1, h3, h4]
  simp [Expr.pos, h3]
/-- y = [elt for tg in it if ..] -/
theorem go_setLc {i : Nat} {n : Str} {q p' : Pos} {nv : Addr → Nv} {D : Ends} {rest : List Stmt} (t : PyData → Bool) (f : PyData → PyData) (A : Hs X k) (hs : X.env.scope = sc) (hi : EvI X tg it env H items owx) (hz : items.length ≤ 100000) {N : List Str} (hN : env.map (·.1) = N) (ok : ownC sc scope N own = true) (cap : Cap (relS scope sc) (own.map (·.2)) 0 env env1)
    (turn : ∀ d ∈ items, ∃ env2, Tgt tg d env1 own env2 ∧ ∀ X', Hs X' k → X'.env.scope = relS scope sc → EvTs X' ifs env2 H (t d) ∧ (t d = true → EvD X' elt env2 H (f d)))
    (hp : ∀ a, Put env i n (.v (.ref a)) (nv a)) (sw : swL sc scope n pos q = true) (kk : ∀ a H1, H a = none → Ex H H1 → Lst H1 a ((items.filter t).map f) → Go X rest (nv a) H1 D)
    (hf : ∀ x, foldedSetIterable it X.env x = pure x := by intro _; rfl) : Go X (.Assign [.Name n q] (.ListComp elt [⟨tg, it, ifs, 0⟩] scope pos) p' :: rest) env H D := ⟨fun σ H1 e0 okk => by
  have hl : X.env.scope.names.lookup n = some .local := by
    rw [hs]
    unfold swL at sw
    simp only [Bool.and_eq_true, decide_eq_true_eq] at sw
    exact sw.1.1.2
  have key := lc_run (Q := fun x H2 => gName i x σ H2 (wB X rest D)) t f A hs hi hz hN ok cap turn e0 okk fun p H2 hn e2 l2 => (kk p H2 (e0.back hn) (e0.trans e2) l2).run _ H2 (Ex.refl _) ((okk.mono e2.t).put (hp p) rfl (.inl hl))
  exact ⟨_, pss_cons (ps_setLc (g := gB X scope tg) (tt := tB X scope ifs) (te := eB X scope elt) A.calm A.nd (by rw [okk.names]; exact (hp 0).name.1) hl (swL_of hs sw) pi_w key.1 pgB ptB peB hf) pb_w, key.2⟩⟩
end
end WK
/-! WKCal -/
set_option Elab.async false
set_option linter.all false
set_option maxRecDepth 100000
set_option maxHeartbeats 1000000
/-! Defs and their promises, calls, built-ins. -/
namespace WK
open PySem PySem.Spec PyProof.Rows L2
/-- a def by its name keeps its promise -/
structure Cal (P : Program) (w : World) (K : PySem.W.Frag) (mg : Str → Option Value) (x : Str) (k : Nat) (ps : List Str) (sp : Sp) : Prop where
  ex : ∃ f fd, mg x = some (.ref f) ∧ PySem.W.keepIn K (.ref f) = true ∧ Binds K fd ps [] ∧ ∀ base, FnOk P w K mg base CX0 k f fd ps sp
/-- a pure def: R tells its answer by its arguments -/
def SpD (R : List PyData → PyData → Prop) : Sp := fun vs H Q _ => ∃ ds r, R ds r ∧ RpA H vs ds ∧ ∀ v H', Ex H H' → Rp H' v r → Q v H'
/-- it gives a new list -/
def SpL (R : List PyData → List PyData → Prop) : Sp := fun vs H Q _ => ∃ ds r, R ds r ∧ RpA H vs ds ∧ ∀ p H', H p = none → Ex H H' → Lst H' p r → Q (.ref p) H'
class HasCal (x : Str) (k : outParam Nat) (ps : outParam (List Str)) (sp : outParam Sp) : Prop where
  cal : ∀ (P : Program) (w : World) (K : PySem.W.Frag) (mg : Str → Option Value), Tx K mg → Cal P w K mg x k ps sp
section
variable {X : Cx} {k k' : Nat} {e a b c : Expr} {es : List Expr} {env : Nv} {H : Hp} {d x y : PyData} {ds items : List PyData} {pos p : Pos} {sc : Scope} {n : Str} {ps : List Str} {sp : Sp}
theorem Room.le {A : Around} (r : Room k A) (h : k' ≤ k) : Room k' A := r.mono h
/-- the reading of a def's call -/
theorem pe_cal [hc : HasCal n k' ps sp] (A : Hs X k) (hs : X.env.scope = sc) (hg : glB sc n = true) (hk : k' ≤ k) (hp : (e :: es).all plainE = true) : ∃ E, PE X (.Call (.Name n p) (e :: es) [] pos) (tCall sp [] E (wA X (e :: es))) := by
  obtain ⟨f, fd, h1, h2, h3, h4⟩ := (hc.cal X.prog X.w X.K X.mg A.t).ex
  obtain ⟨hp1, hp2⟩ := Bool.and_eq_true_iff.mp hp
  exact ⟨E0, pe_call (CX := CX0) (h4 X.base) (A.room.mono hk) (gl_of hs hg) h1 h2 h3 .nil pass0 pa_w (gl_db hg) (star_of hp1) (plain_of hp2)⟩
theorem ed_call {R : List PyData → PyData → Prop} [hc : HasCal n k' ps (SpD R)] (A : Hs X k) (hs : X.env.scope = sc) (ha : EvA X (e :: es) env H ds) (hr : R ds d) (hg : glB sc n = true := by decide +kernel) (hk : k' ≤ k := by decide) (hp : (e :: es).all plainE = true := by rfl) :
    EvD X (.Call (.Name n p) (e :: es) [] pos) env H d := ⟨fun σ H1 e0 ok Q q => by
  obtain ⟨E, h⟩ := pe_cal (p := p) (pos := pos) (hc := hc) A hs hg hk hp
  refine ⟨_, h, ha.run σ H1 e0 ok _ fun vs H2 e2 r => ?_⟩
  show SpD R (vs ++ []) H2 Q E
  rw [List.append_nil]
  exact ⟨ds, d, hr, r, fun v H' e3 r3 => q v H' (e2.trans e3) r3⟩⟩
theorem el_call {R : List PyData → List PyData → Prop} {r : List PyData} [hc : HasCal n k' ps (SpL R)] (A : Hs X k) (hs : X.env.scope = sc) (ha : EvA X (e :: es) env H ds) (hr : R ds r) (hg : glB sc n = true := by decide +kernel) (hk : k' ≤ k := by decide) (hp : (e :: es).all plainE = true := by rfl) :
    EvL X (.Call (.Name n p) (e :: es) [] pos) env H r := ⟨fun σ H1 e0 ok Q q => by
  obtain ⟨E, h⟩ := pe_cal (p := p) (pos := pos) (hc := hc) A hs hg hk hp
  refine ⟨_, h, ha.run σ H1 e0 ok _ fun vs H2 e2 rr => ?_⟩
  show SpL R (vs ++ []) H2 Q E
  rw [List.append_nil]
  exact ⟨ds, r, hr, rr, fun v H' hn e3 r3 => q v H' (e2.back hn) (e2.trans e3) r3⟩⟩
/-! ### built-ins -/
theorem ed_callB {id : String} {r : List V → Hp → VK → Prop} (hc : CallR X (.builtin id) r) (A : Hs X k) (hs : X.env.scope = sc) (hg : glB sc n = true) (hm : X.mg n = none) (hv : bootBuiltins n = some (.builtin id)) (ha : EvA X (e :: es) env H ds)
    (h : ∀ vs H2, RpA H2 vs ds → ∀ Q : VK, (∀ v H3, Ex H2 H3 → Rp H3 v d → Q v H3) → r vs H2 Q) (hn : n ≠ "__name__") (hp : (e :: es).all plainE = true) : EvD X (.Call (.Name n p) (e :: es) [] pos) env H d := ⟨fun σ H1 e0 ok Q q =>
  ⟨_, pe_callB hc (gl_of hs hg) hm hv pa_w hn (gl_db hg) (star_of (Bool.and_eq_true_iff.mp hp).1) (plain_of (Bool.and_eq_true_iff.mp hp).2), ha.run σ H1 e0 ok _ fun vs H2 e2 r2 => h vs H2 r2 Q fun v H3 e3 r3 => q v H3 (e2.trans e3) r3⟩⟩
theorem ed_callT {T : String} {r : List V → Hp → VK → Prop} (hc : CallR X (.type T) r) (A : Hs X k) (hs : X.env.scope = sc) (hg : glB sc n = true) (hm : X.mg n = none) (hv : bootBuiltins n = some (.type T)) (ha : EvA X (e :: es) env H ds)
    (h : ∀ vs H2, RpA H2 vs ds → ∀ Q : VK, (∀ v H3, Ex H2 H3 → Rp H3 v d → Q v H3) → r vs H2 Q) (hn : n ≠ "__name__") (hp : (e :: es).all plainE = true) : EvD X (.Call (.Name n p) (e :: es) [] pos) env H d := ⟨fun σ H1 e0 ok Q q =>
  ⟨_, pe_callTy hc (gl_of hs hg) hm hv pa_w hn (gl_db hg) (star_of (Bool.and_eq_true_iff.mp hp).1) (plain_of (Bool.and_eq_true_iff.mp hp).2), ha.run σ H1 e0 ok _ fun vs H2 e2 r2 => h vs H2 r2 Q fun v H3 e3 r3 => q v H3 (e2.trans e3) r3⟩⟩
theorem ed_len (A : Hs X k) (hs : X.env.scope = sc) (ha : EvD X a env H (.tuple ds)) (hg : glB sc "len" = true := by decide +kernel) (hp : plainE a = true := by rfl) : EvD X (.Call (.Name "len" p) [a] [] pos) env H (.int ds.length) :=
  ed_callB call_len_seq A hs hg (A.t.free (by decide +kernel)) boot_len (ea_cons ha ea_nil hp) (fun vs H2 r Q q => by
    cases r with
    | cons r1 r2 =>
    cases r2
    cases r1 with
    | tup h1 q1 => exact ⟨_, _, rfl, .inr (SqT.of h1), q _ H2 (Ex.refl _) (by rw [q1.len]; exact .int _)⟩) (by decide) (by simp [hp])
theorem ed_max {i j : Int} (A : Hs X k) (hs : X.env.scope = sc) (ha : EvD X a env H (.int i)) (hb : EvD X b env H (.int j)) (hg : glB sc "max" = true := by decide +kernel) (hp : plainE a = true := by rfl) (hp2 : plainE b = true := by rfl) :
    EvD X (.Call (.Name "max" p) [a, b] [] pos) env H (.int (max i j)) :=
  ed_callB (call_max2 A.calm) A hs hg (A.t.free (by decide +kernel)) boot_max (ea_cons ha (ea_cons hb ea_nil hp2) hp) (fun vs H2 r Q q => by
    cases r with
    | cons r1 r2 =>
    cases r2 with
    | cons r2 r3 =>
    cases r3
    cases r1
    cases r2
    refine ⟨_, _, rfl, q _ H2 (Ex.refl _) ?_⟩
    have e : (if j > i then j else i) = max i j := by
      split <;> omega
    rw [e]
    exact .int _) (by decide) (by simp [hp, hp2])
theorem ed_min {i j : Int} (A : Hs X k) (hs : X.env.scope = sc) (ha : EvD X a env H (.int i)) (hb : EvD X b env H (.int j)) (hg : glB sc "min" = true := by decide +kernel) (hp : plainE a = true := by rfl) (hp2 : plainE b = true := by rfl) :
    EvD X (.Call (.Name "min" p) [a, b] [] pos) env H (.int (min i j)) :=
  ed_callB (call_min2 A.calm) A hs hg (A.t.free (by decide +kernel)) boot_min (ea_cons ha (ea_cons hb ea_nil hp2) hp) (fun vs H2 r Q q => by
    cases r with
    | cons r1 r2 =>
    cases r2 with
    | cons r2 r3 =>
    cases r3
    cases r1
    cases r2
    refine ⟨_, _, rfl, q _ H2 (Ex.refl _) ?_⟩
    have e : (if j < i then j else i) = min i j := by
      split <;> omega
    rw [e]
    exact .int _) (by decide) (by simp [hp, hp2])
theorem ed_intb {t : Bool} (A : Hs X k) (hs : X.env.scope = sc) (ha : EvD X a env H (.bool t)) (hg : glB sc "int" = true := by decide +kernel) (hp : plainE a = true := by rfl) : EvD X (.Call (.Name "int" p) [a] [] pos) env H (.int (if t then 1 else 0)) :=
  ed_callT call_int1 A hs hg (A.t.free (by decide +kernel)) PyProof.Rows.boot_int (ea_cons ha ea_nil hp) (fun vs H2 r Q q => by
    cases r with
    | cons r1 r2 =>
    cases r2
    cases r1
    exact .inr ⟨_, rfl, q _ H2 (Ex.refl _) (.int _)⟩) (by decide) (by simp [hp])
/-- a list's call: the list is read -/
theorem er_callB {id : String} {r : List V → Hp → VK → Prop} (hc : CallR X (.builtin id) r) (A : Hs X k) (hs : X.env.scope = sc) (hg : glB sc n = true) (hm : X.mg n = none) (hv : bootBuiltins n = some (.builtin id)) (ha : EvR X a env H ds)
    (h : ∀ l H2, Lst H2 l ds → ∀ Q : VK, (∀ v H3, Ex H2 H3 → Rp H3 v d → Q v H3) → r [.ref l] H2 Q) (hn : n ≠ "__name__") (hp : plainE a = true) : EvD X (.Call (.Name n p) [a] [] pos) env H d := ⟨fun σ H1 e0 ok Q q =>
  ⟨_, pe_callB hc (gl_of hs hg) hm hv (pa_cons pe_w pa_nil (star_of hp)) hn (gl_db hg) (star_of hp) (plain_of rfl), ha.run σ H1 e0 ok _ fun l H2 e2 r2 => h l H2 r2 Q fun v H3 e3 r3 => q v H3 (e2.trans e3) r3⟩⟩
theorem bools_of {H2 : Hp} : ∀ {bs : List Bool} {vs : List V}, RpA H2 vs (bs.map .bool) → vs = bs.map V.bl
  | [], _, .nil => rfl
  | b :: bs, _, .cons r rr => by
    cases r
    rw [bools_of rr]
    rfl
theorem ed_all {bs : List Bool} (A : Hs X k) (hs : X.env.scope = sc) (ha : EvR X a env H ds) (hb : ds = bs.map .bool) (hg : glB sc "all" = true := by decide +kernel) (hp : plainE a = true := by rfl) : EvD X (.Call (.Name "all" p) [a] [] pos) env H (.bool (bs.all id)) :=
  er_callB (cr_all A.calm) A hs hg (A.t.free (by decide +kernel)) boot_all ha (fun l H2 hl Q q => by
    subst hb
    obtain ⟨vs, h1, h2⟩ := hl
    rw [bools_of h2] at h1
    exact ⟨l, bs, rfl, SqL.of h1, q _ H2 (Ex.refl _) (.bl _)⟩) (by decide) hp
theorem ed_any {bs : List Bool} (A : Hs X k) (hs : X.env.scope = sc) (ha : EvR X a env H ds) (hb : ds = bs.map .bool) (hg : glB sc "any" = true := by decide +kernel) (hp : plainE a = true := by rfl) : EvD X (.Call (.Name "any" p) [a] [] pos) env H (.bool (bs.any id)) :=
  er_callB (cr_any A.calm) A hs hg (A.t.free (by decide +kernel)) boot_any ha (fun l H2 hl Q q => by
    subst hb
    obtain ⟨vs, h1, h2⟩ := hl
    rw [bools_of h2] at h1
    exact ⟨l, bs, rfl, SqL.of h1, q _ H2 (Ex.refl _) (.bl _)⟩) (by decide) hp
/-- tuple(list) -/
theorem ed_tupL (A : Hs X k) (hs : X.env.scope = sc) (ha : EvR X a env H ds) (hg : glB sc "tuple" = true := by decide +kernel) (hp : plainE a = true := by rfl) : EvD X (.Call (.Name "tuple" p) [a] [] pos) env H (.tuple ds) := ⟨fun σ H1 e0 ok Q q =>
  ⟨_, pe_callTy call_tuple_of (gl_of hs hg) (A.t.free (by decide +kernel)) PyProof.Rows.boot_tuple (pa_cons pe_w pa_nil (star_of hp)) (by decide) (gl_db hg) (star_of hp) (plain_of rfl), ha.run σ H1 e0 ok _ fun l H2 e2 hl => by
    obtain ⟨vs, h1, h2⟩ := hl
    exact ⟨l, vs, rfl, .inl ⟨SqL.of h1, fun pp hp => q _ _ (e2.trans (Ex.new hp)) (.tup upd_same (h2.mono (Ex.new hp).t))⟩⟩⟩⟩
/-- list(range(n)) -/
theorem el_range {i : Int} (A : Hs X k) (hs : X.env.scope = sc) (ha : EvD X a env H (.int i)) (hi : 0 ≤ i ∧ i ≤ 1000000) {p2 pos2 : Pos} (hg : glB sc "list" = true := by decide +kernel) (hg2 : glB sc "range" = true := by decide +kernel) (hp : plainE a = true := by rfl) :
    EvL X (.Call (.Name "list" p) [.Call (.Name "range" p2) [a] [] pos2] [] pos) env H (rangeD i) := ⟨fun σ H1 e0 ok Q q =>
  ⟨_, pe_listRg A.calm (gl_of hs hg) (A.t.free (by decide +kernel)) (prg_1 (gl_of hs hg2) (A.t.free (by decide +kernel)) pe_w (star_of hp)) (star_of rfl), ha.run σ H1 e0 ok _ fun v H2 e2 r => by
    cases r
    refine ⟨i, rfl, RgOk.of_le (by omega) (by omega) (by omega) (by omega), fun pp hp => q pp _ (e2.back hp) (e2.trans (Ex.new hp)) ⟨_, upd_same, ?_⟩⟩
    unfold rgV rangeD
    rw [Int.sub_zero]
    have key : ∀ l : List Nat, RpA (upd H2 pp (.lst ((List.range i.toNat).map fun j => V.int (0 + (j : Nat))))) (l.map fun j => V.int (0 + (j : Nat))) (l.map fun (j : Nat) => PyData.int (j : Int)) := by
      intro l
      induction l with
      | nil => exact .nil
      | cons z l ih => exact .cons (by show Rp _ (.int (0 + (z : Int))) _; rw [Int.zero_add]; exact .int _) ih
    exact key _⟩⟩
/-- isinstance -/
def isiB : PyData → Str → Option Bool
  | .int _, s => if s = "int" then some true else if s = "bool" then some false else none
  | .tuple _, s => if s = "tuple" then some true else none
  | .str _, s => if s = "str" then some true else none
  | _, _ => none
theorem isi_of {T : String} {t : Bool} (ho : OpR X (compareOp .Eq) rEq) (hk : ∀ H2 v, Rp H2 v x → ∃ ty, TyX X.K H2 v (.type ty) ∧ kitB ty T = some t) (A : Hs X k) (hs : X.env.scope = sc) (ha : EvD X a env H x) (hm2 : X.mg n = none) (hv : bootBuiltins n = some (.type T)) (hn2 : n ≠ "__name__")
    (hg : glB sc "isinstance" = true) (hg2 : glB sc n = true) (hp : plainE a = true) {p2 : Pos} : EvD X (.Call (.Name "isinstance" p) [a, .Name n p2] [] pos) env H (.bool t) := ⟨fun σ H1 e0 ok Q q =>
  ⟨_, pe_callB call_isi (gl_of hs hg) (A.t.free (by decide +kernel)) boot_isinstance (pa_cons pe_w (pa_cons (pe_bltn (v := .ty T) (gl_of hs hg2) hm2 hv rfl hn2 (gl_db hg2)) pa_nil) (star_of hp)) (by decide) (gl_db hg) (star_of hp) (plain_of rfl), ha.run σ H1 e0 ok _ fun v H2 e2 r => by
    obtain ⟨ty, h1, h2⟩ := hk H2 v r
    exact ⟨v, .ty T, .type ty, .type T, t, rfl, .ty T, h1, kit_ty h2, q _ H2 e2 (.bl _)⟩⟩⟩
theorem ed_isInt {i : Int} (A : Hs X k) (hs : X.env.scope = sc) (ha : EvD X a env H (.int i)) {p2 : Pos} (hg : glB sc "isinstance" = true := by decide +kernel) (hg2 : glB sc "int" = true := by decide +kernel) (hp : plainE a = true := by rfl) : EvD X (.Call (.Name "isinstance" p) [a, .Name "int" p2] [] pos) env H (.bool true) :=
  isi_of (T := "int") op_eq (fun H2 v r => by cases r; exact ⟨"int", .base (.int _), by decide +kernel⟩) A hs ha (A.t.free (by decide +kernel)) PyProof.Rows.boot_int (by decide) hg hg2 hp
theorem ed_isBool {i : Int} (A : Hs X k) (hs : X.env.scope = sc) (ha : EvD X a env H (.int i)) {p2 : Pos} (hg : glB sc "isinstance" = true := by decide +kernel) (hg2 : glB sc "bool" = true := by decide +kernel) (hp : plainE a = true := by rfl) : EvD X (.Call (.Name "isinstance" p) [a, .Name "bool" p2] [] pos) env H (.bool false) :=
  isi_of (T := "bool") op_eq (fun H2 v r => by cases r; exact ⟨"int", .base (.int _), by decide +kernel⟩) A hs ha (A.t.free (by decide +kernel)) PyProof.Rows.boot_bool (by decide) hg hg2 hp
theorem ed_isTup (A : Hs X k) (hs : X.env.scope = sc) (ha : EvD X a env H (.tuple ds)) {p2 : Pos} (hg : glB sc "isinstance" = true := by decide +kernel) (hg2 : glB sc "tuple" = true := by decide +kernel) (hp : plainE a = true := by rfl) : EvD X (.Call (.Name "isinstance" p) [a, .Name "tuple" p2] [] pos) env H (.bool true) :=
  isi_of (T := "tuple") op_eq (fun H2 v r => by
    cases r with
    | tup h _ => exact ⟨"tuple", .base (.tup h), by decide +kernel⟩) A hs ha (A.t.free (by decide +kernel)) PyProof.Rows.boot_tuple (by decide) hg hg2 hp
theorem ed_isStr {z : Str} (A : Hs X k) (hs : X.env.scope = sc) (ha : EvD X a env H (.str z)) {p2 : Pos} (hg : glB sc "isinstance" = true := by decide +kernel) (hg2 : glB sc "str" = true := by decide +kernel) (hp : plainE a = true := by rfl) : EvD X (.Call (.Name "isinstance" p) [a, .Name "str" p2] [] pos) env H (.bool true) :=
  isi_of (T := "str") op_eq (fun H2 v r => by cases r; exact ⟨"str", .base (.str _), by decide +kernel⟩) A hs ha (A.t.free (by decide +kernel)) PyProof.Rows.boot_str (by decide) hg hg2 hp
end
/-! ### a def's own proof -/
def isDef (x : Str) (i : Nat) : Bool := (fn.map (fun d => (d.at_, d.name))).any fun q => decide (q = ((x, none), x))
/-- what the def at place i of the top promises, by its body in any context -/
theorem Cal.mk' {P : Program} {w : World} {K : PySem.W.Frag} {mg : Str → Option Value} {x : Str} {i k : Nat} {N ps : List Str} {sp : Sp} (T : Tx K mg) (hd : dG x i ∈ fn) (hg : faB (isGlo x) = true) (S : FnScope N ps (defScope (top i)))
    (hb : ∀ (kV doc pm : Value) (an : Option Addr) (cdv ct : Value) (us : List Value), us.length = ps.length → bindArgs (PySem.W.fnOf x x (defArgs (top i)) (defBody (top i)) (defScope (top i)) .none kV doc pm an cdv ct) ⟨us, []⟩ = pure (ps.zip us))
    (len : ∀ vs H Q E, sp vs H Q E → vs.length = ps.length)
    (body : ∀ X : Cx, Hs X k → X.env.scope = defScope (top i) → X.N = N → (∀ y, X.fn y = true) → ∀ vs H Q E, sp vs H Q E → wB X (defBody (top i)) { nx := fun _ H' => Q .non H', rt := Q } (start N vs) H) : Cal P w K mg x (k + 1) ps sp := by
  obtain ⟨fd, F⟩ := T.d.defs hd
  refine ⟨_, fd, T.glo hg, F.kp, F.bindsN hb, fun base => ?_⟩
  refine F.ok S len fun cdv A outer s H vs Q E hr hsp => ?_
  have := body ((cxOf CX0 P w K mg base N x (defScope (top i)) (He.fAd K (x, none)) cdv A outer s H E).nox) ⟨T, hr, rfl, S.nd, rfl⟩ rfl rfl (fun _ => rfl) vs H Q E hsp
  exact ⟨_, PSs.nox pb_w, this⟩
/-- the same of a pure def -/
def unM : List Str → Nv
  | [] => []
  | n :: r => (n, .un) :: unM r
def nvOf : List Str → List PyData → List Str → Nv
  | p :: ps, d :: ds, more => (p, .d d) :: nvOf ps ds more
  | [], _, more => unM more
  | _ :: _, [], more => unM more
theorem nva_un {H : Hp} : ∀ more : List Str, NvA H (List.replicate more.length none) (unM more)
  | [] => .nil
  | _ :: r => .cons True.intro (nva_un r)
theorem nva_start {H : Hp} : ∀ {vs : List V} {ds : List PyData} {ps : List Str} {more : List Str}, RpA H vs ds → ps.length = ds.length → NvA H (vs.map some ++ List.replicate more.length none) (nvOf ps ds more)
  | _, _, [], more, .nil, _ => nva_un more
  | _, _, p :: ps, more, .cons r rr, hl => .cons r (nva_start rr (by simpa using hl))
/-- the scope's facts by one run -/
def fnScopeB (N ps : List Str) (sc : Scope) : Bool := (match sc.kind with | .function => true | _ => false) && !sc.isCoroutine && !sc.isGenerator && decide N.Nodup && decide (N.take ps.length = ps) && (ps.all fun x => locB sc x) && sc.names.all fun y => !decide (y.2 = .free)
theorem fnScope_by {N ps : List Str} {sc : Scope} (h : fnScopeB N ps sc = true) : FnScope N ps sc := by
  unfold fnScopeB at h
  simp only [Bool.and_eq_true, Bool.not_eq_true', decide_eq_true_eq, List.all_eq_true, decide_eq_false_iff_not] at h
  obtain ⟨⟨⟨⟨⟨⟨h1, h2⟩, h3⟩, h4⟩, h5⟩, h6⟩, h7⟩ := h
  refine ⟨?_, h2, h3, h4, h5, fun x hx => ?_, h7⟩
  · split at h1
    · assumption
    · cases h1
  · have := h6 x hx
    unfold locB at this
    split at this <;> first
      | (rename_i e; first | exact .inl e | exact .inr e)
      | cases this
/-- how a def's body ends, r its answer -/
structure Ret (D : Ends) (H : Hp) (r : PyData) : Prop where
  rt : ∀ v H1, Ex H H1 → Rp H1 v r → D.rt v H1
  nx : r = .none → ∀ σ H1, Ex H H1 → D.nx σ H1
theorem go_out {X : Cx} {e : Expr} {env : Nv} {H : Hp} {D : Ends} {d r : PyData} {p : Pos} {rest : List Stmt} (h : EvD X e env H d) (q : d = r) (hD : Ret D H r) : Go X (.Return (some e) p :: rest) env H D := go_ret (h.is q) hD.rt
theorem go_outX {X : Cx} {e : Expr} {env : Nv} {H H0 : Hp} {D D0 : Ends} {d r : PyData} {p : Pos} {rest : List Stmt} (h : EvD X e env H d) (q : d = r) (hD : Ret D0 H0 r) (e0 : Ex H0 H) (er : D.rt = D0.rt := by rfl) : Go X (.Return (some e) p :: rest) env H D := go_ret (h.is q) fun v H1 e1 r1 => by
  rw [er]
  exact hD.rt v H1 (e0.trans e1) r1
theorem Ret.to {D : Ends} {H : Hp} {r x : PyData} (h : Ret D H r) (e : r = x) : Ret D H x := e ▸ h
theorem vis0 {sc : Scope} : ∀ p ∈ ([] : Nv), p.2 ≠ .un → Vis sc p.1 := fun p h => by cases h
theorem vis1 {sc : Scope} {x : Str} {s : Sl} {e : Nv} (h : visB sc x = true) (r : ∀ p ∈ e, p.2 ≠ .un → Vis sc p.1) : ∀ p ∈ (x, s) :: e, p.2 ≠ .un → Vis sc p.1 := fun p hp hn => by
  rcases List.mem_cons.mp hp with z | z
  · rw [z]
    exact (visN h).vis
  · exact r p z hn
theorem visU {sc : Scope} {x : Str} {e : Nv} (r : ∀ p ∈ e, p.2 ≠ .un → Vis sc p.1) : ∀ p ∈ (x, Sl.un) :: e, p.2 ≠ .un → Vis sc p.1 := fun p hp hn => by
  rcases List.mem_cons.mp hp with z | z
  · rw [z] at hn
    exact absurd rfl hn
  · exact r p z hn
theorem unM_names : ∀ more : List Str, (unM more).map (·.1) = more
  | [] => rfl
  | n :: r => congrArg (n :: ·) (unM_names r)
theorem nvOf_names : ∀ {ps : List Str} {ds : List PyData} {more : List Str}, ps.length = ds.length → ps ++ more = (nvOf ps ds more).map (·.1)
  | [], [], more, _ => (unM_names more).symm
  | p :: ps, d :: ds, more, h => congrArg (p :: ·) (nvOf_names (by simpa using h))
theorem unM_vis {sc : Scope} : ∀ more : List Str, ∀ p ∈ unM more, p.2 ≠ .un → Vis sc p.1
  | [] => vis0
  | _ :: r => visU (unM_vis r)
theorem nvOf_vis {sc : Scope} : ∀ {ps : List Str} {ds : List PyData} {more : List Str}, ps.all (visB sc) = true → ∀ p ∈ nvOf ps ds more, p.2 ≠ .un → Vis sc p.1
  | [], [], more, _ => unM_vis more
  | [], _ :: _, more, _ => unM_vis more
  | _ :: _, [], more, _ => unM_vis more
  | p :: ps, d :: ds, more, h => vis1 (Bool.and_eq_true_iff.mp h).1 (nvOf_vis (Bool.and_eq_true_iff.mp h).2)
theorem Cal.pure {P : Program} {w : World} {K : PySem.W.Frag} {mg : Str → Option Value} {x : Str} {i k : Nat} {ps more : List Str} {R : List PyData → PyData → Prop} (T : Tx K mg) (hd : dG x i ∈ fn) (hg : faB (isGlo x) = true) (S : FnScope (ps ++ more) ps (defScope (top i)))
    (hb : ∀ (kV doc pm : Value) (an : Option Addr) (cdv ct : Value) (us : List Value), us.length = ps.length → bindArgs (PySem.W.fnOf x x (defArgs (top i)) (defBody (top i)) (defScope (top i)) .none kV doc pm an cdv ct) ⟨us, []⟩ = Pure.pure (ps.zip us))
    (hv : ps.all (visB (defScope (top i))) = true) (len : ∀ ds r, R ds r → ps.length = ds.length)
    (body : ∀ X : Cx, Hs X k → X.env.scope = defScope (top i) → (∀ y, X.fn y = true) → ∀ ds r, R ds r → ∀ H D, Ret D H r → Go X (defBody (top i)) (nvOf ps ds more) H D) : Cal P w K mg x (k + 1) ps (SpD R) := by
  refine Cal.mk' T hd hg S hb (fun vs H Q E ⟨ds, r, h, q, _⟩ => by rw [q.len, len ds r h]) fun X A hs hN hf vs H Q E ⟨ds, r, h, q, hq⟩ => ?_
  have hl := len ds r h
  refine (body X A hs hf ds r h H _ ⟨fun v H1 e1 r1 => hq v H1 e1 r1, fun hr σ H1 e1 => hq .non H1 e1 (by rw [hr]; exact .non)⟩).run _ H (Ex.refl _) ⟨?_, ?_, ?_⟩
  · rw [hN]
    exact nvOf_names hl
  · have := nva_start (more := more) q hl
    unfold L2.start
    rw [List.length_append, q.len, ← hl, Nat.add_sub_cancel_left]
    exact this
  · rw [hs]
    exact nvOf_vis hv
/-- the same of a def that gives a new list -/
def RetL (D : Ends) (H : Hp) (r : List PyData) : Prop := ∀ p H1, H p = none → Ex H H1 → Lst H1 p r → D.rt (.ref p) H1
theorem Cal.pureL {P : Program} {w : World} {K : PySem.W.Frag} {mg : Str → Option Value} {x : Str} {i k : Nat} {ps more : List Str} {R : List PyData → List PyData → Prop} (T : Tx K mg) (hd : dG x i ∈ fn) (hg : faB (isGlo x) = true) (S : FnScope (ps ++ more) ps (defScope (top i)))
    (hb : ∀ (kV doc pm : Value) (an : Option Addr) (cdv ct : Value) (us : List Value), us.length = ps.length → bindArgs (PySem.W.fnOf x x (defArgs (top i)) (defBody (top i)) (defScope (top i)) .none kV doc pm an cdv ct) ⟨us, []⟩ = Pure.pure (ps.zip us))
    (hv : ps.all (visB (defScope (top i))) = true) (len : ∀ ds r, R ds r → ps.length = ds.length)
    (body : ∀ X : Cx, Hs X k → X.env.scope = defScope (top i) → (∀ y, X.fn y = true) → ∀ ds r, R ds r → ∀ H D, RetL D H r → Go X (defBody (top i)) (nvOf ps ds more) H D) : Cal P w K mg x (k + 1) ps (SpL R) := by
  refine Cal.mk' T hd hg S hb (fun vs H Q E ⟨ds, r, h, q, _⟩ => by rw [q.len, len ds r h]) fun X A hs hN hf vs H Q E ⟨ds, r, h, q, hq⟩ => ?_
  have hl := len ds r h
  refine (body X A hs hf ds r h H _ (fun p H1 hn e1 r1 => hq p H1 hn e1 r1)).run _ H (Ex.refl _) ⟨?_, ?_, ?_⟩
  · rw [hN]
    exact nvOf_names hl
  · have := nva_start (more := more) q hl
    unfold L2.start
    rw [List.length_append, q.len, ← hl, Nat.add_sub_cancel_left]
    exact this
  · rw [hs]
    exact nvOf_vis hv
section
variable {X : Cx} {k : Nat} {e a b c : Expr} {es : List Expr} {env env' env2 : Nv} {H : Hp} {D : Ends} {d x y : PyData} {ds ys : List PyData} {pos p : Pos} {sc : Scope} {rest : List Stmt}
theorem ed_ifT {s : Bool} (hc : EvT X c env H s) (h : s = true) (ha : EvD X a env H x) : EvD X (.IfExp c a b pos) env H x := (ed_if (y := x) hc (fun _ => ha) fun z => by rw [h] at z; cases z).is (by rw [h]; rfl)
theorem ed_ifF {s : Bool} (hc : EvT X c env H s) (h : s = false) (hb : EvD X b env H x) : EvD X (.IfExp c a b pos) env H x := (ed_if (x := x) hc (fun z => by rw [h] at z; cases z) fun _ => hb).is (by rw [h]; rfl)
/-- list + list -/
theorem el_cat (ha : EvR X a env H ds) (hb : EvR X b env H ys) (hl : ds.length + ys.length ≤ 100000) : EvL X (.BinOp a .Add b pos) env H (ds ++ ys) := ⟨fun σ H1 e0 ok Q q =>
  ⟨_, pe_op op_cat pe_w pe_w, ha.run σ H1 e0 ok _ fun l H2 e2 r2 => hb.run σ H2 (e0.trans e2) (ok.mono e2.t) _ fun m H3 e3 r3 => by
    obtain ⟨vs, h1, q1⟩ := r2.ex e3
    obtain ⟨us, h2, q2⟩ := r3
    have ex := e2.trans e3
    refine ⟨_, _, _, _, rfl, rfl, h1, h2, by rw [q1.len, q2.len]; exact Nat.le_trans hl (by decide), fun pp hp => q pp _ (ex.back hp) (ex.trans (Ex.new hp)) ⟨_, upd_same, (q1.app q2).mono (Ex.new hp).t⟩⟩⟩⟩
/-- x, y = a, b: two plain names -/
theorem go_par {i j : Nat} {n m : Str} {px py pt : Pos} {kt k2 : Nat} {pt2 : Pos} (A : Hs X k) (hs : X.env.scope = sc) (ha : EvD X a env H x) (hb : EvD X b env H y) (h1 : Put env i n (.d x) env') (h2 : Put env' j m (.d y) env2) (hij : i ≠ j) (v1 : visB sc n = true) (v2 : visB sc m = true) (l1 : sc.names.lookup n = some .local)
    (l2 : sc.names.lookup m = some .local) (q : Go X rest env2 H D) (hw : swappedStores [.Tuple [.Name n px, .Name m py] kt pt] (.Tuple [a, b] k2 pt2) X.env = Pure.pure (some [n, m])) (hp1 : plainE a = true := by rfl) (hp2 : plainE b = true := by rfl) :
    Go X (.Assign [.Tuple [.Name n px, .Name m py] kt pt] (.Tuple [a, b] k2 pt2) pos :: rest) env H D := ⟨fun σ H1 e0 ok => by
  have nm := h1.name
  have nm2 := h2.name
  subst hs
  refine ⟨_, pss_cons (ps_par A.calm A.nd (by rw [ok.names]; exact nm.1) (by rw [ok.names, ← nm.2]; exact nm2.1) hij l1 l2 pa_w hw) pb_w, (ea_cons ha (ea_cons hb ea_nil hp2) hp1).run σ H1 e0 ok _ fun vs H2 e2 r => ?_⟩
  cases r with
  | cons r1 r2 =>
  cases r2 with
  | cons r2 r3 =>
  cases r3
  exact ⟨_, _, rfl, q.run _ H2 (e0.trans e2) (((ok.mono e2.t).put h1 r1 (visN v1).vis).put h2 r2 (visN v2).vis)⟩⟩
end
end WK
/-! WKEnum -/
set_option Elab.async false
set_option linter.all false
set_option maxRecDepth 100000
set_option maxHeartbeats 1000000
/-! enumerate of a tuple, as what a for and a comprehension walk. -/
namespace PySem
open Sem (wp)
/-- enumerate's making over anything that begins -/
theorem wk_newEnum {y : Value} {ob : Obj} {Hd : Heap → Prop} (Bg : Begins y ob Hd) :
    Meets (Builtin.«enumerate.__new__» ⟨[.type "enumerate", y], []⟩) (fun _ R st => Hd st.heap ∧ R (.ok (.ret (.ref (st.heap.push ob).objs.size)))
      { st with heap := (st.heap.push ob).push { cls := .type "enumerate", data := .fields #[.none, .bool false, .ref st.heap.objs.size, rawInt 0, .none, .none] } }) :=
  .of_wp fun pg wd Ar Rr st hh => by
    obtain ⟨hp, gs, dr, tk, os⟩ := st
    obtain ⟨hd1, hh⟩ := hh
    have sub1 := sub_enumerate
    have qq : ∀ {A' : Around} {E : Value → Shared → Prop} {Q : Value → Shared → Prop}, Q (.ref hp.objs.size) ⟨hp.push ob, gs, dr, tk, os⟩ → wpAny (model pg wd) A' (pyIter y) Q E ⟨hp, gs, dr, tk, os⟩ := fun z => Bg.iter pg wd _ _ ⟨hp, gs, dr, tk, os⟩ _ hd1 z
    wp_walk using qq
    refine wpAny_stack_any fun stk => wpAny_pure ?_
    split
    · rename_i cc _ _ _ _ _
      cases (cc == Value.type "enumerate")
      · wp_walk using qq
        exact ⟨_, rfl, hh⟩
      · wp_walk using qq
        exact ⟨_, rfl, hh⟩
    · wp_walk using qq
      exact ⟨_, rfl, hh⟩
/-- enumerate(y): two new cells -/
theorem wk_callEnum {pg : Program} {wd : World} {Ar : Around} {Er : Value → Shared → Prop} {st : Shared} {y : Value} {ob : Obj} {Hd : Heap → Prop} {Qr : Value → Shared → Prop} (Bg : Begins y ob Hd) (hd1 : Hd st.heap)
    (k : ∀ g, IsEnum g (st.heap.objs.size + 1) st.heap.objs.size 0 .none → g.get? st.heap.objs.size = some ob → (∀ b o, st.heap.get? b = some o → g.get? b = some o) → Qr (.ref (st.heap.objs.size + 1)) { st with heap := g }) :
    wpAny (model pg wd) Ar (call (.type "enumerate") [y]) Qr Er st := by
  refine callType_new F.called_enumerate (by decide) (F.typeCall_enumerate_1 _) (F.newCall_enumerate_1 _) (fun z => F.args_object_init_2 z _) F.entry_enumerate_new (wk_newEnum Bg) ⟨hd1, ?_⟩
  have sz : (st.heap.push ob).objs.size = st.heap.objs.size + 1 := Heap.size_push ..
  have en : IsEnum ((st.heap.push ob).push { cls := .type "enumerate", data := .fields #[.none, .bool false, .ref st.heap.objs.size, rawInt 0, .none, .none] }) (st.heap.objs.size + 1) st.heap.objs.size 0 .none := by
    have g1 := Heap.get?_push_size (st.heap.push ob) (o := { cls := .type "enumerate", data := .fields #[.none, .bool false, .ref st.heap.objs.size, rawInt 0, .none, .none] }) rfl
    rw [sz] at g1
    exact g1
  show _ ∧ _
  rw [sz]
  exact ⟨⟨_, en, rfl⟩, k _ en (Heap.get?_push_of_some _ (Heap.get?_push_size _ Bg.free)) fun b o z => Heap.get?_push_of_some _ (Heap.get?_push_of_some _ z)⟩
end PySem
namespace WK
open PySem PySem.Spec PyProof.Rows L2
/-- the tuple at a, each item in a new pair behind its number -/
def ItE (K : PySem.W.Frag) (a : Addr) : It :=
  ⟨fun i H => ∃ (xs : List V) (x : V), SqT K H a xs ∧ xs[i]? = some x,
   fun i H v H' => ∃ t x, v = .ref t ∧ H t = none ∧ H' = upd H t (.tup [.int (i : Nat), x]) ∧ ∀ xs, SqT K H a xs → xs[i]? = some x,
   fun i H => ∃ xs : List V, SqT K H a xs ∧ i = xs.length⟩
theorem turnE {P : Program} {w : World} {K : PySem.W.Frag} {ts : List Expr} {j : Nat} {tp : Pos} (a e it : Addr) :
    Turn P w K (.Tuple ts j tp) (ItE K a) [e, it] e (fun i h => (∃ old, IsEnum h e it (0 + ((i : Nat) : Int)) old) ∧ h.IsTupleIter it a i ∧ e ≠ it ∧ e ≠ a ∧ a ≠ it) where
  mem := List.mem_cons_self
  obj := fun i h st b hb => by
    obtain ⟨⟨old, q1⟩, ⟨o, q2, q3, q4⟩, _⟩ := st
    rcases List.mem_cons.mp hb with z | z
    · exact ⟨_, by rw [z]; exact q1, fun v y => by cases y⟩
    · have z : b = it := by simpa using z
      exact ⟨o, by rw [z]; exact q2, fun v y => by rw [q4] at y; cases y⟩
  keep := fun i h h' st k => by
    obtain ⟨⟨old, q1⟩, q2, q3⟩ := st
    exact ⟨⟨old, k e (by simp) _ q1⟩, q2.at fun o y => k it (by simp) o y, q3⟩
  item := by
    intro X hP hw hK hc i pins s σ H E I hf st hg
    subst hP hw hK
    obtain ⟨q1, q2, n1, n2, n3⟩ := st
    obtain ⟨xs, x, hx, hxi⟩ := hg
    obtain ⟨its, rv, tp1, _⟩ := I.tuple hx
    have hi : i < its.toArray.size := by
      have := (List.getElem?_eq_some_iff.mp hxi).1
      have l := rv.length
      simpa [← l] using this
    have hlt : ∀ b ∈ [e, it], b < s.heap.objs.size := fun b hb => by
      rcases List.mem_cons.mp hb with z | z
      · rw [z]; obtain ⟨old, q1⟩ := q1; exact Heap.lt_size q1
      · have z : b = it := by simpa using z
        rw [z]; obtain ⟨_, q2, _⟩ := q2; exact Heap.lt_size q2
    refine (GoesN.enumFrom (elts := ts) (x1 := j) (pos := tp) 0 (Draws.tuple (prog := X.prog) (w := X.w) (A := X.A.in1) (I.ok.hd hc) it a n3 its.toArray) e n1 (by simp [n1, n2]) (by simp)).goes i s _ E hi ⟨q1, q2, tp1⟩ fun v h' tk hY st' hk htk => ?_
    obtain ⟨t, tt, u, rfl, hnew, hu, hT⟩ := hY
    obtain ⟨y, hy, ry⟩ : ∃ y, xs[i]? = some y ∧ RelV y u := by
      obtain ⟨u', hu', ru'⟩ := rv.get hxi
      have e1 : u' = u := by
        have h1 : its.toArray[i]? = its[i]? := by simp
        rw [h1, hu'] at hu
        exact Option.some.inj hu
      exact ⟨x, hxi, e1 ▸ ru'⟩
    have new : ObjOk X.prog X.w (upd H t (.tup [.int (i : Nat), y])) h' t (.tup [.int (i : Nat), y]) :=
      ⟨by show 2 ≤ sizeLine; decide, [.int (0 + ((i : Nat) : Int)) tt, u], .cons ⟨tt, by rw [Int.zero_add]⟩ (.cons ry .nil), hT⟩
    have J : Inv X pins σ (upd H t (.tup [.int (i : Nat), y])) { s with heap := h', toks := tk } := I.turnedNew (ch := [e, it]) hk hf hnew new
    refine ⟨.ref t, _, J, rfl, ⟨t, y, rfl, I.hok.fresh hnew, rfl, fun ys hy2 => by rw [I.tuple_inj hy2 hx]; exact hy⟩, ⟨st'.1, st'.2.1, n1, n2, n3⟩, fun b hb => ?_⟩
    rw [upd_ne (Nat.ne_of_lt (Nat.lt_of_lt_of_le (hlt b hb) hnew))]
    exact (hf b hb).1
  done := by
    intro X hP hw hK hc i pins s σ H E I hf st hg
    subst hP hw hK
    obtain ⟨q1, q2, n1, n2, n3⟩ := st
    obtain ⟨xs, hx, hle⟩ := hg
    obtain ⟨its, rv, tp1, _⟩ := I.tuple hx
    have l : i = its.toArray.size := by rw [hle, rv.length]; simp
    subst l
    exact (GoesN.enumFrom (elts := ts) (x1 := j) (pos := tp) 0 (Draws.tuple (prog := X.prog) (w := X.w) (A := X.A.in1) (I.ok.hd hc) it a n3 its.toArray) e n1 (by simp [n1, n2]) (by simp)).stops s _ E ⟨q1, q2, tp1⟩ fun h' tk hk _ => I.turnedL (ch := [e, it]) hk hf
  self := fun A i s Q E st h => by
    obtain ⟨⟨old, q1⟩, _⟩ := st
    exact wpAny_pyIter_enum q1 h
def iEnumT (K : PySem.W.Frag) (ta : TA) : TI := fun σ H R => ta σ H fun vs H1 => ∃ a xs, vs = [.ref a] ∧ SqT K H1 a xs ∧ R (ItE K a) H1
theorem pi_enumT {X : Cx} {e : Expr} {ta : TA} {p pos tp : Pos} {ts : List Expr} {j : Nat} (hg : Gl X "enumerate") (hm : X.mg "enumerate" = none) (ha : PA X [e] ta) (hs : starEach [e] X.env = [(false, eval e X.env)]) : PI X (.Tuple ts j tp) (.Call (.Name "enumerate" p) [e] [] pos) (iEnumT X.K ta) := by
  refine ⟨fun pins s σ H R I h => ?_⟩
  refine Call_ (ld_blt I hg hm boot_enumerate (PyProof.Rows.callWith_type1 (thn (ha.run pos pins s σ H _ I h) fun us s1 hq => ?_) hs rfl))
  obtain ⟨vs, H1, I1, r1, a, xs, ex, hx, q⟩ := hq
  subst ex
  cases r1 with
  | cons r rr =>
  cases rr
  cases r
  obtain ⟨its, rv, tp1, hz⟩ := I1.tuple hx
  refine wk_callEnum (begins_tuple a its.toArray) tp1 fun g hen hit hk => wpAny_pyIter_enum hen ?_
  have I2 : Inv X pins σ H1 { s1 with heap := g } := I1.kept (t' := s1.toks) hk
  have al : a < s1.heap.objs.size := by obtain ⟨o, ho, _⟩ := tp1; exact Heap.lt_size ho
  refine ⟨s1.heap.objs.size + 1, [s1.heap.objs.size + 1, s1.heap.objs.size], _, _, H1, rfl, I2, turnE a (s1.heap.objs.size + 1) s1.heap.objs.size, ⟨⟨.none, by simpa using hen⟩, ⟨_, hit, rfl, rfl⟩, Nat.succ_ne_self _, Nat.ne_of_gt (Nat.lt_succ_of_lt al), Nat.ne_of_lt al⟩, fun b hb => ?_, q⟩
  have hle : s1.heap.objs.size ≤ b := by
    rcases List.mem_cons.mp hb with z | z
    · rw [z]; exact Nat.le_add_right _ _
    · have z : b = s1.heap.objs.size := by simpa using z
      rw [z]; exact Nat.le_refl _
  exact I1.fpOk hle (I1.hok.fresh hle)
/-- the items with their numbers -/
def enumF : Int → List PyData → List PyData
  | _, [] => []
  | n, d :: ds => .tuple [.int n, d] :: enumF (n + 1) ds
def enumD (ds : List PyData) : List PyData := enumF 0 ds
theorem enumF_len : ∀ (ds : List PyData) (n : Int), (enumF n ds).length = ds.length
  | [], _ => rfl
  | _ :: ds, n => congrArg Nat.succ (enumF_len ds (n + 1))
theorem enumF_get : ∀ (ds : List PyData) (n : Int) (i : Nat), (enumF n ds)[i]? = ds[i]?.map fun d => .tuple [.int (n + i), d]
  | [], _, _ => by simp [enumF]
  | d :: ds, n, 0 => by simp [enumF]
  | d :: ds, n, i + 1 => by
    have := enumF_get ds (n + 1) i
    simp only [enumF, List.getElem?_cons_succ, this]
    have e : n + 1 + (i : Int) = n + ((i + 1 : Nat) : Int) := by omega
    rw [e]
theorem enumD_len (ds : List PyData) : (enumD ds).length = ds.length := enumF_len ds 0
theorem enumD_get (ds : List PyData) (i : Nat) : (enumD ds)[i]? = ds[i]?.map fun d => .tuple [.int (i : Int), d] := by
  have := enumF_get ds 0 i
  simpa [enumD] using this
section
variable {X : Cx} {k : Nat} {a : Expr} {env : Nv} {H : Hp} {ds : List PyData} {pos p : Pos} {sc : Scope}
theorem ei_enum {ts : List Expr} {j : Nat} {tp : Pos} (A : Hs X k) (hs : X.env.scope = sc) (hg : glB sc "enumerate" = true) (ha : EvD X a env H (.tuple ds)) (hp : plainE a = true := by rfl) : EvI X (.Tuple ts j tp) (.Call (.Name "enumerate" p) [a] [] pos) env H (enumD ds) [] := ⟨fun σ H1 e0 ok R q =>
  ⟨_, pi_enumT (gl_of hs hg) (A.t.free (by decide +kernel)) pa_w (star_of hp), ((ea_cons ha ea_nil hp).run σ H1 e0 ok _ fun vs H2 e2 r => by
    cases r with
    | cons r1 r2 =>
    cases r2
    cases r1 with
    | @tup al vl _ h1 q1 =>
    refine ⟨al, vl, rfl, SqT.of h1, q _ H2 [] e2 (fun b hb => by cases hb) ⟨?_⟩⟩
    have hl : (enumD ds).length = vl.length := by rw [enumD_len, q1.len]
    have hz : ∀ {H' : Hp}, TLe H2 H' → SqT X.K H' al vl := fun g => SqT.of (g _ _ h1)
    rw [hl]
    refine ⟨fun i H' hi g => ⟨vl, vl[i], hz g.1, List.getElem?_eq_getElem hi⟩, fun H' g => ⟨vl, hz g.1, rfl⟩, fun i H' v H'' hi g y => ?_⟩
    obtain ⟨T, x, e3, e4, e5, e6⟩ := y
    subst e3 e5
    obtain ⟨dx, k1, m1⟩ := q1.at (e6 vl (hz g.1))
    have ex := Ex.new (o := .tup [.int (i : Nat), x]) e4
    refine ⟨ex, .tuple [.int (i : Int), dx], ?_, .tup upd_same (.cons (.int _) (.cons (m1.mono (g.1.trans ex.t)) .nil))⟩
    rw [enumD_get, k1]
    rfl)⟩⟩
end
end WK
/-! WKType -/
set_option Elab.async false
set_option linter.all false
set_option maxRecDepth 100000
set_option maxHeartbeats 1000000
/-! Houses, deeds, records as Lean's own data, and what the program's defs make of them. -/
namespace WK
open PySem PySem.Spec PyProof.Rows L2
def zD (l : List Int) : List PyData := l.map .int
def kD (l : List Int) : PyData := .tuple (zD l)
def gD (g : Int × Int) : PyData := .tuple [.int g.1, .int g.2]
def bD (b : List (Int × Int)) : PyData := .tuple (b.map gD)
structure Door where
  hall : Int
  letter : Int
  to : Int
  gaps : List (Int × Int)
structure Smith where
  hall : Int
  most : Int
  price : Int
structure Ho where
  teeth : Int
  halls : Int
  wears : List (List Int)
  doors : List Door
  benches : List Int
  smiths : List Smith
def doorD (d : Door) : PyData := .tuple [.int d.hall, .int d.letter, .int d.to, bD d.gaps]
def smithD (s : Smith) : PyData := .tuple [.int s.hall, .int s.most, .int s.price]
def hoD (h : Ho) : PyData := .tuple [.int h.teeth, .int h.halls, .tuple (h.wears.map kD), .tuple (h.doors.map doorD), .tuple (zD h.benches), .tuple (h.smiths.map smithD)]
inductive Deed where
  | go (l : Int)
  | file (t : Int)
  | lift (t : Int)
def deedD : Deed → PyData
  | .go l => .tuple [.str "go", .int l]
  | .file t => .tuple [.str "file", .int t]
  | .lift t => .tuple [.str "lift", .int t]
inductive Entry where
  | deed (d : Deed)
  | shut (l : Int)
  | seen (t lo hi : Int)
def entryD : Entry → PyData
  | .deed d => deedD d
  | .shut l => .tuple [.str "shut", .int l]
  | .seen t lo hi => .tuple [.str "seen", .int t, .int lo, .int hi]
def standD (hall : Int) (key : List Int) : PyData := .tuple [.int hall, kD key]
/-! ### members -/
theorem mem_zD {l : List Int} {d : PyData} (h : d ∈ zD l) : ∃ i, i ∈ l ∧ d = .int i := by
  obtain ⟨i, hi, e⟩ := List.mem_map.mp h
  exact ⟨i, hi, e.symm⟩
theorem mem_gaps {l : List (Int × Int)} {d : PyData} (h : d ∈ l.map gD) : ∃ g, g ∈ l ∧ d = .tuple [.int g.1, .int g.2] := by
  obtain ⟨i, hi, e⟩ := List.mem_map.mp h
  exact ⟨i, hi, e.symm⟩
theorem mem_keys {l : List (List Int)} {d : PyData} (h : d ∈ l.map kD) : ∃ k, k ∈ l ∧ d = kD k := by
  obtain ⟨i, hi, e⟩ := List.mem_map.mp h
  exact ⟨i, hi, e.symm⟩
theorem mem_doors {l : List Door} {d : PyData} (h : d ∈ l.map doorD) : ∃ k, k ∈ l ∧ d = doorD k := by
  obtain ⟨i, hi, e⟩ := List.mem_map.mp h
  exact ⟨i, hi, e.symm⟩
theorem mem_smiths {l : List Smith} {d : PyData} (h : d ∈ l.map smithD) : ∃ k, k ∈ l ∧ d = smithD k := by
  obtain ⟨i, hi, e⟩ := List.mem_map.mp h
  exact ⟨i, hi, e.symm⟩
theorem zD_len (l : List Int) : (zD l).length = l.length := by unfold zD; simp
theorem zD_get (l : List Int) (i : Nat) : (zD l)[i]? = l[i]?.map PyData.int := by unfold zD; simp
theorem bools_map {α : Type} (g : α → Bool) (l : List α) : l.map (fun d => PyData.bool (g d)) = (l.map g).map PyData.bool := by
  rw [List.map_map]
  rfl
theorem all_true {α : Type} (l : List α) (t : α → Bool) : (((l.filter t).map fun _ => true).all id) = true := by
  rw [List.all_eq_true]
  intro b hb
  obtain ⟨_, _, e⟩ := List.mem_map.mp hb
  rw [← e]
  rfl
/-- a[i], i a number from 0 on -/
theorem atI_of {α : Type} {l : List α} {i : Int} {x : α} (h0 : 0 ≤ i) (h : l[i.toNat]? = some x) : atI l i = some x := by
  unfold atI ixN
  have hl : i.toNat < l.length := (List.getElem?_eq_some_iff.mp h).1
  rw [if_pos h0, if_pos (by omega)]
  exact h
theorem atI_zD {l : List Int} {i x : Int} (h0 : 0 ≤ i) (h : l[i.toNat]? = some x) : atI (zD l) i = some (.int x) := atI_of h0 (by rw [zD_get, h]; rfl)
/-! ### slices -/
theorem cut_from (ds : List PyData) (n : Nat) : cutD ds (some (n : Int)) none = ds.drop n := by
  unfold cutD
  rw [HT.sIx_nat, HT.sIx_none]
  by_cases h : n ≤ ds.length
  · rw [Nat.min_eq_left h, List.take_of_length_le (by rw [List.length_drop]; exact Nat.le_refl _)]
  · rw [Nat.min_eq_right (by omega), List.drop_length, List.drop_of_length_le (by omega)]
    simp
theorem cut_to (ds : List PyData) (n : Nat) : cutD ds none (some (n : Int)) = ds.take n := by
  unfold cutD
  rw [HT.sIx_nat, HT.sIx_none, List.drop_zero, Nat.sub_zero]
  by_cases h : n ≤ ds.length
  · rw [Nat.min_eq_left h]
  · rw [Nat.min_eq_right (by omega), List.take_of_length_le (Nat.le_refl _), List.take_of_length_le (by omega)]
theorem cut_from1 (ds : List PyData) : cutD ds (some 1) none = ds.drop 1 := cut_from ds 1
theorem cut_to2 (ds : List PyData) : cutD ds none (some 2) = ds.take 2 := cut_to ds 2
/-! ### < of numbers and of tuples of numbers -/
def numsOf : List PyData → Option (List Int)
  | [] => some []
  | .int i :: r => (numsOf r).map (i :: ·)
  | _ :: _ => none
def ltD : PyData → PyData → Option Bool
  | .int i, .int j => some (decide (i < j))
  | .tuple xs, .tuple ys => match numsOf xs, numsOf ys with
    | some a, some b => some (HT.lexLt a b)
    | _, _ => none
  | _, _ => none
theorem numsOf_rp {H : Hp} : ∀ {ds : List PyData} {vs : List V} {ns : List Int}, RpA H vs ds → numsOf ds = some ns → vs = ns.map V.int
  | [], _, _, .nil, h => by
    cases h
    rfl
  | .int i :: r, _, ns, .cons q rr, h => by
    cases q
    simp only [numsOf, Option.map_eq_some_iff] at h
    obtain ⟨m, h1, h2⟩ := h
    subst h2
    rw [numsOf_rp rr h1]
    rfl
  | .none :: _, _, _, _, h => by cases h
  | .bool _ :: _, _, _, _, h => by cases h
  | .str _ :: _, _, _, _, h => by cases h
  | .list _ :: _, _, _, _, h => by cases h
  | .tuple _ :: _, _, _, _, h => by cases h
  | .dict _ :: _, _, _, _, h => by cases h
theorem numsOf_zD : ∀ l : List Int, numsOf (zD l) = some l
  | [] => rfl
  | i :: l => by
    show (numsOf (zD l)).map (i :: ·) = _
    rw [numsOf_zD l]
    rfl
section
variable {X : Cx} {k : Nat} {a b : Expr} {env : Nv} {H : Hp} {x y : PyData} {pos : Pos}
theorem ed_ltX {t : Bool} (A : Hs X k) (ha : EvD X a env H x) (hb : EvD X b env H y) (h : ltD x y = some t) : EvD X (.Compare a [.Lt] [b] pos) env H (.bool t) :=
  ed_cmpR (OpR.or op_lt (op_ltT A.units0)) ha hb (fun v u H2 r1 r2 Q q => by
    cases r1 <;> cases r2 <;> first
      | (cases h; exact .inl ⟨_, _, rfl, rfl, q⟩)
      | (rename_i h1 q1 _ _ _ h2 q2
         simp only [ltD] at h
         split at h
         · rename_i e1 e2
           cases h
           rw [numsOf_rp q1 e1] at h1
           rw [numsOf_rp q2 e2] at h2
           exact .inr ⟨_, _, _, _, rfl, rfl, SqT.of h1, SqT.of h2, q⟩
         · cases h)
      | cases h) (nomark _)
end
end WK
/-! WKKeys -/
set_option Elab.async false
set_option linter.all false
set_option maxRecDepth 100000
set_option maxHeartbeats 1000000
/-! keys.py -/
namespace WK
open PySem PySem.Spec PyProof.Rows L2
section
variable {X : Cx} {k : Nat} {e a b it tg : Expr} {env : Nv} {H : Hp} {ds xs ys : List PyData} {pos p : Pos} {sc : Scope} {l : Addr}
theorem el_slice {lo hi : Option Expr} {lw u : Option Int} {p2 : Pos} (ha : EvR X a env H ds) (hl : EvO X lo env H lw) (hu : EvO X hi env H u) : EvL X (.Subscript a (.Slice lo hi none p2) pos) env H (cutD ds lw u) := ⟨fun σ H1 e0 ok Q q =>
  ⟨_, pe_slice sl_list pe_w po_w po_w, ha.run σ H1 e0 ok _ fun l H2 e2 r2 => hl.run σ H2 (e0.trans e2) (ok.mono e2.t) _ fun H3 e3 => hu.run σ H3 ((e0.trans e2).trans e3) ((ok.mono e2.t).mono e3.t) _ fun H4 e4 => by
    obtain ⟨vs, h1, q1⟩ := (r2.ex e3).ex e4
    have ex := (e2.trans e3).trans e4
    exact ⟨_, _, rfl, SqL.of h1, fun pp hp => q pp _ (ex.back hp) (ex.trans (Ex.new hp)) ⟨_, upd_same, (cut_rp q1 lw u).mono (Ex.new hp).t⟩⟩⟩⟩
/-- zip of a list that stands and of a new one -/
theorem ei_zipL {ts : List Expr} {j : Nat} {tp : Pos} (A : Hs X k) (hs : X.env.scope = sc) (hg : glB sc "zip" = true) (ha : EvV X a env H (.ref l)) (hl : Lst H l xs) (hb : EvL X b env H ys) (hp : plainE a = true := by rfl) (hp2 : plainE b = true := by rfl) :
    EvI X (.Tuple ts j tp) (.Call (.Name "zip" p) [a, b] [] pos) env H (zipD xs ys) [l] := ⟨fun σ H1 e0 ok R q =>
  ⟨_, RZ.pi_zipA (gl_of hs hg) (A.t.free (by decide +kernel)) (pa_cons pe_w (pa_cons pe_w pa_nil (star_of hp2)) (star_of hp)) (star_of hp) (plain_of (by simp [hp2])), ha.run σ H1 e0 ok _ fun H2 e2 => hb.run σ H2 (e0.trans e2) (ok.mono e2.t) _ fun m H3 hn e3 hm => by
    obtain ⟨vl, h1, q1⟩ := (hl.ex (e0.trans e2)).ex e3
    obtain ⟨ul, h2, q2⟩ := hm
    refine ⟨l, m, vl, ul, rfl, .inl ⟨SqL.of h1, SqL.of h2, q _ H3 [l, m] (e2.trans e3) (fun b hb => ?_) ⟨?_⟩⟩⟩
    · rcases List.mem_cons.mp hb with z | z
      · exact ⟨.inr (by rw [z]; exact List.mem_cons_self), .lst vl, by rw [z]; exact h1⟩
      · have z : b = m := by simpa using z
        exact ⟨.inl (by rw [z]; exact e2.back hn), .lst ul, by rw [z]; exact h2⟩
    have hz : ∀ {H' : Hp}, (∀ b ∈ [l, m], H' b = H3 b) → SqL X.K H' l vl ∧ SqL X.K H' m ul := fun g => ⟨SqL.of ((g l (by simp)).trans h1), SqL.of ((g m (by simp)).trans h2)⟩
    have hlen : (zipD xs ys).length = min vl.length ul.length := by unfold zipD; rw [List.length_zipWith, q1.len, q2.len]
    rw [hlen]
    refine ⟨fun i H' hi g => ?_, fun H' g => ?_, fun i H' v H'' hi g y => ?_⟩
    · obtain ⟨s1, s2⟩ := hz g.2
      exact ⟨vl, ul, vl[i]'(by omega), ul[i]'(by omega), s1, s2, List.getElem?_eq_getElem (by omega), List.getElem?_eq_getElem (by omega)⟩
    · obtain ⟨s1, s2⟩ := hz g.2
      exact ⟨vl, ul, s1, s2, by omega⟩
    · obtain ⟨s1, s2⟩ := hz g.2
      obtain ⟨T, x, z, e4, e5, e6, e7, e8⟩ := y
      subst e4 e6
      obtain ⟨dx, k1, m1⟩ := q1.at (e7 vl s1)
      obtain ⟨dz, k2, m2⟩ := q2.at (e8 ul s2)
      have ex := Ex.new (o := .tup [x, z]) e5
      refine ⟨ex, .tuple [dx, dz], ?_, .tup upd_same (.cons (m1.mono (g.1.trans ex.t)) (.cons (m2.mono (g.1.trans ex.t)) .nil))⟩
      unfold zipD
      rw [List.getElem?_zipWith, k1, k2]⟩⟩
end
inductive R_is_whole : List PyData → PyData → Prop
  | mk (i : Int) : R_is_whole [.int i] (.bool true)
theorem sc_is_whole : FnScope ((["thing"] : List Str) ++ ([] : List Str)) ["thing"] (defScope (top 28)) := fnScope_by (by decide +kernel)
instance : HasCal "is_whole" 1 ["thing"] (SpD R_is_whole) := ⟨fun P w K mg T => by
  refine Cal.pure T (i := 28) (more := ([] : List Str)) (List.mem_of_getElem? (i := 0) rfl) (by decide +kernel) sc_is_whole (fun _ _ _ _ _ _ us hl => match us, hl with | [_], _ => rfl) (by decide +kernel) (fun ds r h => by cases h <;> rfl) fun X A hs hf ds r h H D hD => ?_
  cases h with
  | mk i => exact go_out (ed_and (ed_isInt A hs (ed_var .here hs (by decide +kernel))) (fun h_1 => (ed_one (ed_not (ed_isBool A hs (ed_var .here hs (by decide +kernel))))))) rfl hD⟩
inductive R_is_among : List PyData → PyData → Prop
  | mk (i lo hi : Int) (h1 : lo ≤ i) (h2 : i ≤ hi) : R_is_among [.int i, .int lo, .int hi] (.bool true)
theorem sc_is_among : FnScope ((["thing", "low", "high"] : List Str) ++ ([] : List Str)) ["thing", "low", "high"] (defScope (top 29)) := fnScope_by (by decide +kernel)
instance : HasCal "is_among" 2 ["thing", "low", "high"] (SpD R_is_among) := ⟨fun P w K mg T => by
  refine Cal.pure T (i := 29) (more := ([] : List Str)) (List.mem_of_getElem? (i := 1) rfl) (by decide +kernel) sc_is_among (fun _ _ _ _ _ _ us hl => match us, hl with | [_, _, _], _ => rfl) (by decide +kernel) (fun ds r h => by cases h <;> rfl) fun X A hs hf ds r h H D hD => ?_
  cases h with
  | mk i lo hi h1 h2 => exact go_out (ed_and (ed_call A hs (ea_cons (ed_var .here hs (by decide +kernel)) ea_nil) (by constructor <;> first | assumption | rfl | omega)) (fun h_1 => (ed_one (ed_chain (ed_var (.next (.here)) hs (by decide +kernel)) (ed_var .here hs (by decide +kernel)) (ed_var (.next (.next (.here))) hs (by decide +kernel)))))) (by simp [h1, h2]) hD⟩
inductive R_are_some : List PyData → PyData → Prop
  | mk (ds : List PyData) (lo hi : Int) : R_are_some [.tuple ds, .int lo, .int hi] (.bool (decide (lo ≤ ds.length) && decide ((ds.length : Int) ≤ hi)))
theorem sc_are_some : FnScope ((["thing", "low", "high"] : List Str) ++ ([] : List Str)) ["thing", "low", "high"] (defScope (top 30)) := fnScope_by (by decide +kernel)
instance : HasCal "are_some" 1 ["thing", "low", "high"] (SpD R_are_some) := ⟨fun P w K mg T => by
  refine Cal.pure T (i := 30) (more := ([] : List Str)) (List.mem_of_getElem? (i := 2) rfl) (by decide +kernel) sc_are_some (fun _ _ _ _ _ _ us hl => match us, hl with | [_, _, _], _ => rfl) (by decide +kernel) (fun ds r h => by cases h <;> rfl) fun X A hs hf ds r h H D hD => ?_
  cases h with
  | mk ds lo hi => exact go_out (ed_and (ed_isTup A hs (ed_var .here hs (by decide +kernel))) (fun h_1 => (ed_one (ed_chain (ed_var (.next (.here)) hs (by decide +kernel)) (ed_len A hs (ed_var .here hs (by decide +kernel))) (ed_var (.next (.next (.here))) hs (by decide +kernel)))))) (by simp) hD⟩
inductive R_is_height : List PyData → PyData → Prop
  | mk (i : Int) (h1 : 0 ≤ i) (h2 : i ≤ 6) : R_is_height [.int i] (.bool true)
theorem sc_is_height : FnScope ((["thing"] : List Str) ++ ([] : List Str)) ["thing"] (defScope (top 32)) := fnScope_by (by decide +kernel)
instance : HasCal "is_height" 3 ["thing"] (SpD R_is_height) := ⟨fun P w K mg T => by
  refine Cal.pure T (i := 32) (more := ([] : List Str)) (List.mem_of_getElem? (i := 4) rfl) (by decide +kernel) sc_is_height (fun _ _ _ _ _ _ us hl => match us, hl with | [_], _ => rfl) (by decide +kernel) (fun ds r h => by cases h <;> rfl) fun X A hs hf ds r h H D hD => ?_
  cases h with
  | mk i h1 h2 => exact go_out (ed_call A hs (ea_cons (ed_var .here hs (by decide +kernel)) (ea_cons ed_int (ea_cons (ed_gint (i := 6) A hs (by decide +kernel) (by decide +kernel)) ea_nil))) (by constructor <;> first | assumption | rfl | omega)) rfl hD⟩
/-- a key of n teeth -/
def KeyOk (n : Int) (k : List Int) : Prop := (k.length : Int) = n ∧ ∀ x ∈ k, 0 ≤ x ∧ x ≤ 6
inductive R_is_key_by : List PyData → PyData → Prop
  | mk (n : Int) (k : List Int) (h : KeyOk n k) (hk : k.length ≤ 1000) : R_is_key_by [.int n, kD k] (.bool true)
theorem sc_is_key_by : FnScope ((["teeth", "thing"] : List Str) ++ (["one"] : List Str)) ["teeth", "thing"] (defScope (top 33)) := fnScope_by (by decide +kernel)
instance : HasCal "is_key_by" 4 ["teeth", "thing"] (SpD R_is_key_by) := ⟨fun P w K mg T => by
  refine Cal.pure T (i := 33) (more := (["one"] : List Str)) (List.mem_of_getElem? (i := 5) rfl) (by decide +kernel) sc_is_key_by (fun _ _ _ _ _ _ us hl => match us, hl with | [_, _], _ => rfl) (by decide +kernel) (fun ds r h => by cases h <;> rfl) fun X A hs hf ds r h H D hD => ?_
  cases h with
  | mk n k h hk => exact go_out (ed_and (ed_call A hs (ea_cons (ed_var (.next (.here)) hs (by decide +kernel)) (ea_cons (ed_var .here hs (by decide +kernel)) (ea_cons (ed_var .here hs (by decide +kernel)) ea_nil))) (by constructor <;> first | assumption | rfl | omega)) (fun h_2 => (ed_one (ed_all A hs (EvL.r (el_lc (N := ["teeth", "thing", "one"]) (own := [("one", 2)]) (fun _ => true) (fun _ => .bool true) A hs (ei_tup (ed_var (.next (.here)) hs (by decide +kernel))) (by rw [zD_len]; omega) rfl (by decide +kernel) (.drop (.drop (.drop .nil))) (fun d hd => by
      obtain ⟨i, hi, rfl⟩ := mem_zD hd
      have hh := h.2 i hi
      exact ⟨_, (.name (.next (.next (.here)))), fun X A hs => ⟨ts_nil, fun h_1 => (ed_call A hs (ea_cons (ed_var (.next (.next (.here))) hs (by decide +kernel)) ea_nil) (by constructor <;> first | assumption | rfl | omega))⟩⟩))) (bools_map (fun _ => true) _))))) (by rw [all_true]; simp [kD, zD_len, h.1]) hD⟩
def GapOk (g : Int × Int) : Prop := 0 ≤ g.1 ∧ g.1 ≤ g.2 ∧ g.2 ≤ 6
inductive R_is_gap : List PyData → PyData → Prop
  | mk (x y : Int) (h : GapOk (x, y)) : R_is_gap [.tuple [.int x, .int y]] (.bool true)
theorem sc_is_gap : FnScope ((["thing"] : List Str) ++ (["one"] : List Str)) ["thing"] (defScope (top 34)) := fnScope_by (by decide +kernel)
instance : HasCal "is_gap" 4 ["thing"] (SpD R_is_gap) := ⟨fun P w K mg T => by
  refine Cal.pure T (i := 34) (more := (["one"] : List Str)) (List.mem_of_getElem? (i := 6) rfl) (by decide +kernel) sc_is_gap (fun _ _ _ _ _ _ us hl => match us, hl with | [_], _ => rfl) (by decide +kernel) (fun ds r h => by cases h <;> rfl) fun X A hs hf ds r h H D hD => ?_
  cases h with
  | mk x y h =>
    obtain ⟨h1, h2, h3⟩ := h
    have h1 : 0 ≤ x := h1
    have h2 : x ≤ y := h2
    have h3 : y ≤ 6 := h3
    have mm : ∀ d ∈ ([.int x, .int y] : List PyData), ∃ i : Int, (0 ≤ i ∧ i ≤ 6) ∧ d = .int i := by
      intro d hd
      rcases List.mem_cons.mp hd with rfl | hd
      · exact ⟨x, by omega, rfl⟩
      · have e : d = .int y := by simpa using hd
        exact ⟨y, by omega, e⟩
    exact go_out (ed_and (ed_call A hs (ea_cons (ed_var .here hs (by decide +kernel)) (ea_cons ed_int (ea_cons ed_int ea_nil))) (by constructor <;> first | assumption | rfl | omega)) (fun h_1 => (ed_and (ed_all A hs (EvL.r (el_lc (N := ["thing", "one"]) (own := [("one", 1)]) (fun _ => true) (fun _ => .bool true) A hs (ei_tup (ed_var .here hs (by decide +kernel))) (by first | omega | decide | (simp; done) | (simp; omega)) rfl (by decide +kernel) (.drop (.drop .nil)) (fun d hd => by
      obtain ⟨i, hi, rfl⟩ := mm d hd
      obtain ⟨k1, k2⟩ := hi
      exact ⟨_, (.name (.next (.here))), fun X A hs => ⟨ts_nil, fun h_2 => (ed_call A hs (ea_cons (ed_var (.next (.here)) hs (by decide +kernel)) ea_nil) (by constructor <;> first | assumption | rfl | omega))⟩⟩))) (bools_map _ _)) (fun h_3 => (ed_one (ed_le (ed_ix (ed_var .here hs (by decide +kernel)) ed_int (by first | rfl | assumption | decide +kernel)) (ed_ix (ed_var .here hs (by decide +kernel)) ed_int (by first | rfl | assumption | decide +kernel)))))))) (by simp [h2]) hD⟩
def BoxOk (n : Int) (b : List (Int × Int)) : Prop := (b.length : Int) = n ∧ ∀ g ∈ b, GapOk g
inductive R_is_box_by : List PyData → PyData → Prop
  | mk (n : Int) (k : List (Int × Int)) (h : BoxOk n k) (hk : k.length ≤ 1000) : R_is_box_by [.int n, bD k] (.bool true)
theorem sc_is_box_by : FnScope ((["teeth", "thing"] : List Str) ++ (["one"] : List Str)) ["teeth", "thing"] (defScope (top 35)) := fnScope_by (by decide +kernel)
instance : HasCal "is_box_by" 5 ["teeth", "thing"] (SpD R_is_box_by) := ⟨fun P w K mg T => by
  refine Cal.pure T (i := 35) (more := (["one"] : List Str)) (List.mem_of_getElem? (i := 7) rfl) (by decide +kernel) sc_is_box_by (fun _ _ _ _ _ _ us hl => match us, hl with | [_, _], _ => rfl) (by decide +kernel) (fun ds r h => by cases h <;> rfl) fun X A hs hf ds r h H D hD => ?_
  cases h with
  | mk n k h hk => exact go_out (ed_and (ed_call A hs (ea_cons (ed_var (.next (.here)) hs (by decide +kernel)) (ea_cons (ed_var .here hs (by decide +kernel)) (ea_cons (ed_var .here hs (by decide +kernel)) ea_nil))) (by constructor <;> first | assumption | rfl | omega)) (fun h_1 => (ed_one (ed_all A hs (EvL.r (el_lc (N := ["teeth", "thing", "one"]) (own := [("one", 2)]) (fun _ => true) (fun _ => .bool true) A hs (ei_tup (ed_var (.next (.here)) hs (by decide +kernel))) (by rw [List.length_map]; omega) rfl (by decide +kernel) (.drop (.drop (.drop .nil))) (fun d hd => by
      obtain ⟨g, hi, rfl⟩ := mem_gaps hd
      have hh := h.2 g hi
      exact ⟨_, (.name (.next (.next (.here)))), fun X A hs => ⟨ts_nil, fun h_2 => (ed_call A hs (ea_cons (ed_var (.next (.next (.here))) hs (by decide +kernel)) ea_nil) (by constructor <;> first | assumption | rfl | omega))⟩⟩))) (bools_map _ _))))) (by rw [all_true]; simp [h.1]) hD⟩
/-- each thing is less than the next one -/
def Rising (ds : List PyData) : Prop := ∀ (i : Nat) (x y : PyData), ds[i]? = some x → ds[i + 1]? = some y → ltD x y = some true
theorem Rising.zip {ds : List PyData} (h : Rising ds) {d : PyData} (hd : d ∈ zipD ds (cutD ds (some 1) none)) : ∃ x y, ltD x y = some true ∧ d = .tuple [x, y] := by
  rw [cut_from1] at hd
  unfold zipD at hd
  obtain ⟨i, hi⟩ := List.mem_iff_getElem?.mp hd
  rw [List.getElem?_zipWith, List.getElem?_drop] at hi
  cases e1 : ds[i]? with
  | none =>
    rw [e1] at hi
    cases hi
  | some x =>
    rw [e1] at hi
    cases e2 : ds[1 + i]? with
    | none =>
      rw [e2] at hi
      cases hi
    | some y =>
      rw [e2] at hi
      rw [Nat.add_comm] at e2
      exact ⟨x, y, h i x y e1 e2, (Option.some.inj hi).symm⟩
/-- a tuple or a list that rises -/
def SpRises : Sp := fun vs H Q _ => ∃ a ds, vs = [.ref a] ∧ ((∃ xs, H a = some (.tup xs) ∧ RpA H xs ds) ∨ Lst H a ds) ∧ Rising ds ∧ ds.length ≤ 1000 ∧ ∀ H', Ex H H' → Q (.bl true) H'
theorem len_rises : ∀ vs H Q E, SpRises vs H Q E → vs.length = (["thing"] : List Str).length := by
  rintro vs H Q E ⟨a, ds, rfl, _⟩
  rfl
theorem zip_len (ds : List PyData) (n : ds.length ≤ 1000) (ys : List PyData) : (zipD ds ys).length ≤ 100000 := by
  unfold zipD
  rw [List.length_zipWith]
  omega
theorem sc_rises : FnScope ((["thing"] : List Str) ++ (["one", "later"] : List Str)) ["thing"] (defScope (top 31)) := fnScope_by (by decide +kernel)
instance : HasCal "rises" 1 ["thing"] SpRises := ⟨fun P w K mg T => by
  refine Cal.mk' T (i := 31) (N := (["thing"] : List Str) ++ (["one", "later"] : List Str)) (List.mem_of_getElem? (i := 3) rfl) (by decide +kernel) sc_rises (fun _ _ _ _ _ _ us hl => match us, hl with | [_], _ => rfl) len_rises fun X A hs hN hf vs H Q E h => ?_
  obtain ⟨a, ds, rfl, h, hR, hn, q⟩ := h
  rcases h with ⟨xs, h1, r1⟩ | hl
  · have g : Go X (defBody (top 31)) [("thing", .d (.tuple ds)), ("one", .un), ("later", .un)] H { nx := fun _ H' => Q .non H', rt := Q } := by
      exact go_ret (ed_all A hs (EvL.r (el_lc (N := ["thing", "one", "later"]) (own := [("one", 1), ("later", 2)]) (fun _ => true) (fun _ => .bool true) A hs (ei_zip A hs (by decide +kernel) (ed_var .here hs (by decide +kernel)) (ed_slice (ed_var .here hs (by decide +kernel)) (eo_some ed_int) eo_none)) (zip_len _ hn _) rfl (by decide +kernel) (.drop (.drop (.drop .nil))) (fun d hd => by
      obtain ⟨x, y, hlt, rfl⟩ := hR.zip hd
      exact ⟨_, (.tup (.cons (.name (.next (.here))) (.cons (.name (.next (.next (.here)))) .nil))), fun X A hs => ⟨ts_nil, fun h_1 => (ed_ltX A (ed_var (.next (.here)) hs (by decide +kernel)) (ed_var (.next (.next (.here))) hs (by decide +kernel)) hlt)⟩⟩))) (bools_map _ _)) fun v H1 e1 r => by
        rw [all_true] at r
        cases r
        exact q H1 e1
    exact g.run _ H (Ex.refl _) ⟨hN, .cons (.tup h1 r1) (.cons True.intro (.cons True.intro .nil)), by rw [hs]; exact vis1 (by decide +kernel) (visU (visU vis0))⟩
  · have g : Go X (defBody (top 31)) [("thing", .v (.ref a)), ("one", .un), ("later", .un)] H { nx := fun _ H' => Q .non H', rt := Q } := by
      exact go_ret (ed_all A hs (EvL.r (el_lc (N := ["thing", "one", "later"]) (own := [("one", 1), ("later", 2)]) (fun _ => true) (fun _ => .bool true) A hs (ei_zipL A hs (by decide +kernel) (ev_var .here hs (by decide +kernel)) hl (el_slice (EvV.r (ev_var .here hs (by decide +kernel)) hl) (eo_some ed_int) eo_none)) (zip_len _ hn _) rfl (by decide +kernel) (.drop (.drop (.drop .nil))) (fun d hd => by
      obtain ⟨x, y, hlt, rfl⟩ := hR.zip hd
      exact ⟨_, (.tup (.cons (.name (.next (.here))) (.cons (.name (.next (.next (.here)))) .nil))), fun X A hs => ⟨ts_nil, fun h_2 => (ed_ltX A (ed_var (.next (.here)) hs (by decide +kernel)) (ed_var (.next (.next (.here))) hs (by decide +kernel)) hlt)⟩⟩))) (bools_map _ _)) fun v H1 e1 r => by
        rw [all_true] at r
        cases r
        exact q H1 e1
    exact g.run _ H (Ex.refl _) ⟨hN, .cons rfl (.cons True.intro (.cons True.intro .nil)), by rw [hs]; exact vis1 (by decide +kernel) (visU (visU vis0))⟩⟩
section
variable {X : Cx} {k : Nat} {a : Expr} {env : Nv} {H : Hp} {ds : List PyData} {pos p : Pos} {sc : Scope}
theorem ed_rises (A : Hs X k) (hs : X.env.scope = sc) (ha : EvD X a env H (.tuple ds)) (hr : Rising ds) (hn : ds.length ≤ 1000) (hg : glB sc "rises" = true := by decide +kernel) (hk : 1 ≤ k := by decide) (hp : plainE a = true := by rfl) : EvD X (.Call (.Name "rises" p) [a] [] pos) env H (.bool true) := ⟨fun σ H1 e0 ok Q q => by
  obtain ⟨E, h⟩ := pe_cal (n := "rises") (p := p) (pos := pos) (e := a) (es := []) A hs hg hk (by simp [hp])
  refine ⟨_, h, (ea_cons ha ea_nil hp).run σ H1 e0 ok _ fun vs H2 e2 r => ?_⟩
  cases r with
  | cons r1 r2 =>
  cases r2
  cases r1 with
  | tup h1 q1 => exact ⟨_, ds, rfl, .inl ⟨_, h1, q1⟩, hr, hn, fun H' e3 => q _ H' (e2.trans e3) (.bl true)⟩⟩
theorem ed_risesL (A : Hs X k) (hs : X.env.scope = sc) (ha : EvR X a env H ds) (hr : Rising ds) (hn : ds.length ≤ 1000) (hg : glB sc "rises" = true := by decide +kernel) (hk : 1 ≤ k := by decide) (hp : plainE a = true := by rfl) : EvD X (.Call (.Name "rises" p) [a] [] pos) env H (.bool true) := ⟨fun σ H1 e0 ok Q q => by
  obtain ⟨f, fd, h1, h2, h3, h4⟩ := ((inferInstance : HasCal "rises" 1 ["thing"] SpRises).cal X.prog X.w X.K X.mg A.t).ex
  refine ⟨_, pe_call (CX := CX0) (h4 X.base) (A.room.mono hk) (gl_of hs hg) h1 h2 h3 .nil pass0 (pa_cons pe_w pa_nil (star_of hp)) (gl_db hg) (star_of hp) (plain_of rfl), ha.run σ H1 e0 ok _ fun l H2 e2 hl => ?_⟩
  exact ⟨l, ds, rfl, .inr hl, hr, hn, fun H' e3 => q _ H' (e2.trans e3) (.bl true)⟩⟩
end
end WK
/-! WKHouse -/
set_option Elab.async false
set_option linter.all false
set_option maxRecDepth 100000
set_option maxHeartbeats 1000000
/-! houses.py -/
namespace WK
open PySem PySem.Spec PyProof.Rows L2
/-! ### what houses are -/
def WearOk (n : Int) (l : List Int) : Prop := (l.length : Int) = n ∧ ∀ x ∈ l, 0 ≤ x ∧ x ≤ 3
structure DoorOk (n halls letters : Int) (d : Door) : Prop where
  hall : 0 ≤ d.hall ∧ d.hall ≤ halls - 1
  letter : 0 ≤ d.letter ∧ d.letter ≤ letters - 1
  to : 0 ≤ d.to ∧ d.to ≤ halls - 1
  gaps : BoxOk n d.gaps
structure SmithOk (halls : Int) (s : Smith) : Prop where
  hall : 0 ≤ s.hall ∧ s.hall ≤ halls - 1
  most : 1 ≤ s.most ∧ s.most ≤ 6
  price : 1 ≤ s.price ∧ s.price ≤ 9
structure HoOk (h : Ho) : Prop where
  teeth : 1 ≤ h.teeth ∧ h.teeth ≤ 3
  halls : 1 ≤ h.halls ∧ h.halls ≤ 6
  wearsN : 1 ≤ h.wears.length ∧ h.wears.length ≤ 6
  wears : ∀ l ∈ h.wears, WearOk h.teeth l
  doorsN : h.doors.length ≤ 10
  doors : ∀ d ∈ h.doors, DoorOk h.teeth h.halls h.wears.length d
  doorsR : Rising (h.doors.map fun d => .tuple [.int d.hall, .int d.letter])
  benches : ∀ b ∈ h.benches, 0 ≤ b ∧ b ≤ h.halls - 1
  benchesR : Rising (zD h.benches)
  benchesN : h.benches.length ≤ 10
  smiths : ∀ s ∈ h.smiths, SmithOk h.halls s
  smithsR : Rising (h.smiths.map fun s => .int s.hall)
  smithsN : h.smiths.length ≤ 10
inductive R_is_wear : List PyData → PyData → Prop
  | mk (n : Int) (l : List Int) (h : WearOk n l) (hk : l.length ≤ 1000) : R_is_wear [.int n, kD l] (.bool true)
theorem sc_is_wear : FnScope ((["teeth", "thing"] : List Str) ++ (["one"] : List Str)) ["teeth", "thing"] (defScope (top 55)) := fnScope_by (by decide +kernel)
instance : HasCal "is_wear" 3 ["teeth", "thing"] (SpD R_is_wear) := ⟨fun P w K mg T => by
  refine Cal.pure T (i := 55) (more := (["one"] : List Str)) (List.mem_of_getElem? (i := 14) rfl) (by decide +kernel) sc_is_wear (fun _ _ _ _ _ _ us hl => match us, hl with | [_, _], _ => rfl) (by decide +kernel) (fun ds r h => by cases h <;> rfl) fun X A hs hf ds r h H D hD => ?_
  cases h with
  | mk n l h hk =>
    simp only [nvOf, unM]
    exact go_out (ed_and (ed_call A hs (ea_cons (ed_var (.next (.here)) hs (by decide +kernel)) (ea_cons (ed_var .here hs (by decide +kernel)) (ea_cons (ed_var .here hs (by decide +kernel)) ea_nil))) (by constructor <;> first | assumption | rfl | omega)) (fun h_1 => (ed_one (ed_all A hs (EvL.r (el_lc (N := ["teeth", "thing", "one"]) (own := [("one", 2)]) (fun _ => true) (fun _ => .bool true) A hs (ei_tup (ed_var (.next (.here)) hs (by decide +kernel))) (by rw [zD_len]; omega) rfl (by decide +kernel) (.drop (.drop (.drop .nil))) (fun d hd => by
      obtain ⟨g, hi, rfl⟩ := mem_zD hd
      obtain ⟨k1, k2⟩ := h.2 g hi
      exact ⟨_, (.name (.next (.next (.here)))), fun X A hs => ⟨ts_nil, fun h_2 => (ed_call A hs (ea_cons (ed_var (.next (.next (.here))) hs (by decide +kernel)) (ea_cons ed_int (ea_cons (ed_gint (i := 3) A hs (by decide +kernel) (by decide +kernel)) ea_nil))) (by constructor <;> first | assumption | rfl | omega))⟩⟩))) (bools_map _ _))))) (by rw [all_true]; simp [zD_len, h.1]) hD⟩
inductive R_is_door : List PyData → PyData → Prop
  | mk (n halls letters : Int) (dd : Door) (h : DoorOk n halls letters dd) (hn : n ≤ 1000) : R_is_door [.int n, .int halls, .int letters, doorD dd] (.bool true)
theorem sc_is_door : FnScope ((["teeth", "halls", "letters", "thing"] : List Str) ++ (["hall"] : List Str)) ["teeth", "halls", "letters", "thing"] (defScope (top 56)) := fnScope_by (by decide +kernel)
instance : HasCal "is_door" 6 ["teeth", "halls", "letters", "thing"] (SpD R_is_door) := ⟨fun P w K mg T => by
  refine Cal.pure T (i := 56) (more := (["hall"] : List Str)) (List.mem_of_getElem? (i := 15) rfl) (by decide +kernel) sc_is_door (fun _ _ _ _ _ _ us hl => match us, hl with | [_, _, _, _], _ => rfl) (by decide +kernel) (fun ds r h => by cases h <;> rfl) fun X A hs hf ds r h H D hD => ?_
  cases h with
  | mk n halls letters dd h hn =>
    have hlen : dd.gaps.length ≤ 1000 := by have := h.gaps.1; omega
    have mm : ∀ x ∈ ([.int dd.hall, .int dd.to] : List PyData), ∃ i : Int, (0 ≤ i ∧ i ≤ halls - 1) ∧ x = .int i := by
      intro x hd
      rcases List.mem_cons.mp hd with rfl | hd
      · exact ⟨_, h.hall, rfl⟩
      · have e : x = .int dd.to := by simpa using hd
        exact ⟨_, h.to, e⟩
    have hb := h.gaps
    obtain ⟨l1, l2⟩ := h.letter
    simp only [nvOf, unM]
    refine go_when (et_bool (ew_or (et_not (et_val (ed_call A hs (ea_cons (ed_var (.next (.next (.next (.here)))) hs (by decide +kernel)) (ea_cons ed_int (ea_cons ed_int ea_nil))) (by constructor <;> first | assumption | rfl | omega)))) (fun h_1 => (ew_or1 (et_not (et_val (ed_all A hs (EvL.r (el_lc (N := ["teeth", "halls", "letters", "thing", "hall"]) (own := [("hall", 4)]) (fun _ => true) (fun _ => .bool true) A hs (ei_tup (ed_tup (ea_cons (ed_ix (ed_var (.next (.next (.next (.here)))) hs (by decide +kernel)) ed_int (by first | rfl | assumption | decide +kernel)) (ea_cons (ed_ix (ed_var (.next (.next (.next (.here)))) hs (by decide +kernel)) ed_int (by first | rfl | assumption | decide +kernel)) ea_nil)))) (by first | omega | decide | (simp; done) | (simp; omega)) rfl (by decide +kernel) (.drop (.keep (by decide +kernel) (by decide) (.drop (.drop (.drop .nil))))) (fun d hd => by
      obtain ⟨i, ⟨k1, k2⟩, rfl⟩ := mm d hd
      exact ⟨_, (.name (.next (.next (.next (.next (.here)))))), fun X A hs => ⟨ts_nil, fun h_2 => (ed_call A hs (ea_cons (ed_var (.next (.next (.next (.next (.here))))) hs (by decide +kernel)) (ea_cons ed_int (ea_cons (ed_sub (ed_var (.next (.here)) hs (by decide +kernel)) ed_int) ea_nil))) (by constructor <;> first | assumption | rfl | omega))⟩⟩))) (bools_map _ _)))))))) (fun ht => ?_) fun _ => ?_
    · rw [all_true] at ht
      simp [doorD] at ht
    · exact go_out (ed_and (ed_call A hs (ea_cons (ed_ix (ed_var (.next (.next (.next (.here)))) hs (by decide +kernel)) ed_int (by first | rfl | assumption | decide +kernel)) (ea_cons ed_int (ea_cons (ed_sub (ed_var (.next (.next (.here))) hs (by decide +kernel)) ed_int) ea_nil))) (by constructor <;> first | assumption | rfl | omega)) (fun h_3 => (ed_one (ed_call A hs (ea_cons (ed_var .here hs (by decide +kernel)) (ea_cons (ed_ix (ed_var (.next (.next (.next (.here)))) hs (by decide +kernel)) ed_int (by first | rfl | assumption | decide +kernel)) ea_nil)) (by constructor <;> first | assumption | rfl | omega))))) (by simp) hD⟩
def cut2 : PyData → PyData
  | .tuple ds => .tuple (cutD ds none (some 2))
  | d => d
theorem doors_cut (l : List Door) : ((l.map doorD).filter fun _ => true).map cut2 = l.map fun d => .tuple [.int d.hall, .int d.letter] := by
  rw [List.filter_eq_self.mpr (fun _ _ => rfl), List.map_map]
  apply List.map_congr_left
  intro d _
  show PyData.tuple (cutD [.int d.hall, .int d.letter, .int d.to, bD d.gaps] none (some 2)) = _
  rw [cut_to2]
  rfl
inductive R_are_doors : List PyData → PyData → Prop
  | mk (n halls letters : Int) (l : List Door) (hl : l.length ≤ 10) (h : ∀ d ∈ l, DoorOk n halls letters d) (hr : Rising (l.map fun d => .tuple [.int d.hall, .int d.letter])) (hn : n ≤ 1000) : R_are_doors [.int n, .int halls, .int letters, .tuple (l.map doorD)] (.bool true)
theorem sc_are_doors : FnScope ((["teeth", "halls", "letters", "thing"] : List Str) ++ (["door", "one"] : List Str)) ["teeth", "halls", "letters", "thing"] (defScope (top 57)) := fnScope_by (by decide +kernel)
instance : HasCal "are_doors" 7 ["teeth", "halls", "letters", "thing"] (SpD R_are_doors) := ⟨fun P w K mg T => by
  refine Cal.pure T (i := 57) (more := (["door", "one"] : List Str)) (List.mem_of_getElem? (i := 16) rfl) (by decide +kernel) sc_are_doors (fun _ _ _ _ _ _ us hl => match us, hl with | [_, _, _, _], _ => rfl) (by decide +kernel) (fun ds r h => by cases h <;> rfl) fun X A hs hf ds r h H D hD => ?_
  cases h with
  | mk n halls letters l hl h hr hn =>
    simp only [nvOf, unM]
    refine go_when (et_bool (ew_or (et_not (et_val (ed_call A hs (ea_cons (ed_var (.next (.next (.next (.here)))) hs (by decide +kernel)) (ea_cons ed_int (ea_cons (ed_gint (i := 10) A hs (by decide +kernel) (by decide +kernel)) ea_nil))) (by constructor <;> first | assumption | rfl | omega)))) (fun h_2 => (ew_or1 (et_not (et_val (ed_all A hs (EvL.r (el_lc (N := ["teeth", "halls", "letters", "thing", "door", "one"]) (own := [("one", 5)]) (fun _ => true) (fun _ => .bool true) A hs (ei_tup (ed_var (.next (.next (.next (.here)))) hs (by decide +kernel))) (by rw [List.length_map]; omega) rfl (by decide +kernel) (.keep (by decide +kernel) (by decide) (.keep (by decide +kernel) (by decide) (.keep (by decide +kernel) (by decide) (.drop (.drop (.drop .nil)))))) (fun d hd => by
      obtain ⟨dd, hi, rfl⟩ := mem_doors hd
      have hh := h dd hi
      exact ⟨_, (.name (.next (.next (.next (.next (.next (.here))))))), fun X A hs => ⟨ts_nil, fun h_3 => (ed_call A hs (ea_cons (ed_var .here hs (by decide +kernel)) (ea_cons (ed_var (.next (.here)) hs (by decide +kernel)) (ea_cons (ed_var (.next (.next (.here))) hs (by decide +kernel)) (ea_cons (ed_var (.next (.next (.next (.next (.next (.here)))))) hs (by decide +kernel)) ea_nil)))) (by constructor <;> first | assumption | rfl | omega))⟩⟩))) (bools_map _ _)))))))) (fun ht => ?_) fun _ => ?_
    · rw [all_true] at ht
      simp at ht
      omega
    · exact go_out (ed_risesL A hs (EvL.r (el_lc (N := ["teeth", "halls", "letters", "thing", "door", "one"]) (own := [("door", 4)]) (fun _ => true) cut2 A hs (ei_tup (ed_var (.next (.next (.next (.here)))) hs (by decide +kernel))) (by rw [List.length_map]; omega) rfl (by decide +kernel) (.drop (.drop (.drop (.drop (.drop (.drop .nil)))))) (fun d hd => by
      obtain ⟨dd, hi, rfl⟩ := mem_doors hd
      exact ⟨_, (.name (.next (.next (.next (.next (.here)))))), fun X A hs => ⟨ts_nil, fun h_1 => (ed_slice (ed_var (.next (.next (.next (.next (.here))))) hs (by decide +kernel)) eo_none (eo_some ed_int))⟩⟩))) (by rw [doors_cut]; exact hr) (by rw [doors_cut, List.length_map]; omega)) (by rfl) hD⟩
inductive R_is_smith : List PyData → PyData → Prop
  | mk (halls : Int) (s : Smith) (h : SmithOk halls s) : R_is_smith [.int halls, smithD s] (.bool true)
theorem sc_is_smith : FnScope ((["halls", "thing"] : List Str) ++ ([] : List Str)) ["halls", "thing"] (defScope (top 58)) := fnScope_by (by decide +kernel)
instance : HasCal "is_smith" 3 ["halls", "thing"] (SpD R_is_smith) := ⟨fun P w K mg T => by
  refine Cal.pure T (i := 58) (more := ([] : List Str)) (List.mem_of_getElem? (i := 17) rfl) (by decide +kernel) sc_is_smith (fun _ _ _ _ _ _ us hl => match us, hl with | [_, _], _ => rfl) (by decide +kernel) (fun ds r h => by cases h <;> rfl) fun X A hs hf ds r h H D hD => ?_
  cases h with
  | mk halls s h =>
    obtain ⟨h1, h2⟩ := h.hall
    obtain ⟨h3, h4⟩ := h.most
    obtain ⟨h5, h6⟩ := h.price
    simp only [nvOf, unM]
    refine go_when (et_bool (ew_or (et_not (et_val (ed_call A hs (ea_cons (ed_var (.next (.here)) hs (by decide +kernel)) (ea_cons ed_int (ea_cons ed_int ea_nil))) (by constructor <;> first | assumption | rfl | omega)))) (fun h_1 => (ew_or1 (et_not (et_val (ed_call A hs (ea_cons (ed_ix (ed_var (.next (.here)) hs (by decide +kernel)) ed_int (by first | rfl | assumption | decide +kernel)) (ea_cons ed_int (ea_cons (ed_sub (ed_var .here hs (by decide +kernel)) ed_int) ea_nil))) (by constructor <;> first | assumption | rfl | omega)))))))) (fun ht => ?_) fun _ => ?_
    · simp at ht
    · exact go_out (ed_and (ed_call A hs (ea_cons (ed_ix (ed_var (.next (.here)) hs (by decide +kernel)) ed_int (by first | rfl | assumption | decide +kernel)) (ea_cons ed_int (ea_cons (ed_gint (i := 6) A hs (by decide +kernel) (by decide +kernel)) ea_nil))) (by constructor <;> first | assumption | rfl | omega)) (fun h_2 => (ed_one (ed_call A hs (ea_cons (ed_ix (ed_var (.next (.here)) hs (by decide +kernel)) ed_int (by first | rfl | assumption | decide +kernel)) (ea_cons ed_int (ea_cons (ed_gint (i := 9) A hs (by decide +kernel) (by decide +kernel)) ea_nil))) (by constructor <;> first | assumption | rfl | omega))))) (by rfl) hD⟩
inductive R_are_benches : List PyData → PyData → Prop
  | mk (halls : Int) (l : List Int) (h : ∀ b ∈ l, 0 ≤ b ∧ b ≤ halls - 1) (hr : Rising (zD l)) (hl : l.length ≤ 10) : R_are_benches [.int halls, .tuple (zD l)] (.bool true)
theorem sc_are_benches : FnScope ((["halls", "thing"] : List Str) ++ (["one"] : List Str)) ["halls", "thing"] (defScope (top 59)) := fnScope_by (by decide +kernel)
instance : HasCal "are_benches" 3 ["halls", "thing"] (SpD R_are_benches) := ⟨fun P w K mg T => by
  refine Cal.pure T (i := 59) (more := (["one"] : List Str)) (List.mem_of_getElem? (i := 18) rfl) (by decide +kernel) sc_are_benches (fun _ _ _ _ _ _ us hl => match us, hl with | [_, _], _ => rfl) (by decide +kernel) (fun ds r h => by cases h <;> rfl) fun X A hs hf ds r h H D hD => ?_
  cases h with
  | mk halls l h hr hl =>
    simp only [nvOf, unM]
    exact go_out (ed_and (ed_isTup A hs (ed_var (.next (.here)) hs (by decide +kernel))) (fun h_1 => (ed_and (ed_all A hs (EvL.r (el_lc (N := ["halls", "thing", "one"]) (own := [("one", 2)]) (fun _ => true) (fun _ => .bool true) A hs (ei_tup (ed_var (.next (.here)) hs (by decide +kernel))) (by rw [zD_len]; omega) rfl (by decide +kernel) (.keep (by decide +kernel) (by decide) (.drop (.drop .nil))) (fun d hd => by
      obtain ⟨g, hi, rfl⟩ := mem_zD hd
      obtain ⟨k1, k2⟩ := h g hi
      exact ⟨_, (.name (.next (.next (.here)))), fun X A hs => ⟨ts_nil, fun h_2 => (ed_call A hs (ea_cons (ed_var (.next (.next (.here))) hs (by decide +kernel)) (ea_cons ed_int (ea_cons (ed_sub (ed_var .here hs (by decide +kernel)) ed_int) ea_nil))) (by constructor <;> first | assumption | rfl | omega))⟩⟩))) (bools_map _ _)) (fun h_3 => (ed_one (ed_rises A hs (ed_var (.next (.here)) hs (by decide +kernel)) hr (by rw [zD_len]; omega))))))) (by rw [all_true]; rfl) hD⟩
def fst1 : PyData → PyData
  | .tuple (d :: _) => d
  | d => d
theorem smiths_cut (l : List Smith) : ((l.map smithD).filter fun _ => true).map fst1 = l.map fun s => .int s.hall := by
  rw [List.filter_eq_self.mpr (fun _ _ => rfl), List.map_map]
  rfl
inductive R_are_smiths : List PyData → PyData → Prop
  | mk (halls : Int) (l : List Smith) (h : ∀ b ∈ l, SmithOk halls b) (hr : Rising (l.map fun s => .int s.hall)) (hl : l.length ≤ 10) : R_are_smiths [.int halls, .tuple (l.map smithD)] (.bool true)
theorem sc_are_smiths : FnScope ((["halls", "thing"] : List Str) ++ (["one"] : List Str)) ["halls", "thing"] (defScope (top 60)) := fnScope_by (by decide +kernel)
instance : HasCal "are_smiths" 4 ["halls", "thing"] (SpD R_are_smiths) := ⟨fun P w K mg T => by
  refine Cal.pure T (i := 60) (more := (["one"] : List Str)) (List.mem_of_getElem? (i := 19) rfl) (by decide +kernel) sc_are_smiths (fun _ _ _ _ _ _ us hl => match us, hl with | [_, _], _ => rfl) (by decide +kernel) (fun ds r h => by cases h <;> rfl) fun X A hs hf ds r h H D hD => ?_
  cases h with
  | mk halls l h hr hl =>
    simp only [nvOf, unM]
    refine go_when (et_bool (ew_or (et_not (et_val (ed_isTup A hs (ed_var (.next (.here)) hs (by decide +kernel))))) (fun h_2 => (ew_or1 (et_not (et_val (ed_all A hs (EvL.r (el_lc (N := ["halls", "thing", "one"]) (own := [("one", 2)]) (fun _ => true) (fun _ => .bool true) A hs (ei_tup (ed_var (.next (.here)) hs (by decide +kernel))) (by rw [List.length_map]; omega) rfl (by decide +kernel) (.keep (by decide +kernel) (by decide) (.drop (.drop .nil))) (fun d hd => by
      obtain ⟨g, hi, rfl⟩ := mem_smiths hd
      have hh := h g hi
      exact ⟨_, (.name (.next (.next (.here)))), fun X A hs => ⟨ts_nil, fun h_3 => (ed_call A hs (ea_cons (ed_var .here hs (by decide +kernel)) (ea_cons (ed_var (.next (.next (.here))) hs (by decide +kernel)) ea_nil)) (by constructor <;> first | assumption | rfl | omega))⟩⟩))) (bools_map _ _)))))))) (fun ht => ?_) fun _ => ?_
    · rw [all_true] at ht
      simp at ht
    · exact go_out (ed_risesL A hs (EvL.r (el_lc (N := ["halls", "thing", "one"]) (own := [("one", 2)]) (fun _ => true) fst1 A hs (ei_tup (ed_var (.next (.here)) hs (by decide +kernel))) (by rw [List.length_map]; omega) rfl (by decide +kernel) (.drop (.drop (.drop .nil))) (fun d hd => by
      obtain ⟨g, hi, rfl⟩ := mem_smiths hd
      exact ⟨_, (.name (.next (.next (.here)))), fun X A hs => ⟨ts_nil, fun h_1 => (ed_ix (ed_var (.next (.next (.here))) hs (by decide +kernel)) ed_int (by first | rfl | assumption | decide +kernel))⟩⟩))) (by rw [smiths_cut]; exact hr) (by rw [smiths_cut, List.length_map]; omega)) (by rfl) hD⟩
inductive R_is_house : List PyData → PyData → Prop
  | mk (h : Ho) (ok : HoOk h) : R_is_house [hoD h] (.bool true)
theorem sc_is_house : FnScope ((["thing"] : List Str) ++ (["teeth", "halls", "wears", "doors", "benches", "smiths", "one"] : List Str)) ["thing"] (defScope (top 61)) := fnScope_by (by decide +kernel)
instance : HasCal "is_house" 8 ["thing"] (SpD R_is_house) := ⟨fun P w K mg T => by
  refine Cal.pure T (i := 61) (more := (["teeth", "halls", "wears", "doors", "benches", "smiths", "one"] : List Str)) (List.mem_of_getElem? (i := 20) rfl) (by decide +kernel) sc_is_house (fun _ _ _ _ _ _ us hl => match us, hl with | [_], _ => rfl) (by decide +kernel) (fun ds r h => by cases h <;> rfl) fun X A hs hf ds r h H D hD => ?_
  cases h with
  | mk h ok =>
    obtain ⟨t1, t2⟩ := ok.teeth
    obtain ⟨u1, u2⟩ := ok.halls
    have hd1 := ok.doorsN
    have hd2 := ok.doors
    have hd3 := ok.doorsR
    have hb1 := ok.benches
    have hb2 := ok.benchesR
    have hb3 := ok.benchesN
    have hs1 := ok.smiths
    have hs2 := ok.smithsR
    have hs3 := ok.smithsN
    have w1 := ok.wearsN.1
    have w2 := ok.wearsN.2
    simp only [nvOf, unM]
    refine go_when (et_bool (ew_or (et_not (et_val (ed_call A hs (ea_cons (ed_var .here hs (by decide +kernel)) (ea_cons ed_int (ea_cons ed_int ea_nil))) (by constructor <;> first | assumption | rfl | omega)))) (fun h_1 => (ew_or (et_not (et_val (ed_call A hs (ea_cons (ed_ix (ed_var .here hs (by decide +kernel)) ed_int (by first | rfl | assumption | decide +kernel)) (ea_cons ed_int (ea_cons (ed_gint (i := 3) A hs (by decide +kernel) (by decide +kernel)) ea_nil))) (by constructor <;> first | assumption | rfl | omega)))) (fun h_2 => (ew_or1 (et_not (et_val (ed_call A hs (ea_cons (ed_ix (ed_var .here hs (by decide +kernel)) ed_int (by first | rfl | assumption | decide +kernel)) (ea_cons ed_int (ea_cons (ed_gint (i := 6) A hs (by decide +kernel) (by decide +kernel)) ea_nil))) (by constructor <;> first | assumption | rfl | omega)))))))))) (fun ht => ?_) fun _ => ?_
    · simp at ht
    refine go_unp A (ed_var .here hs (by decide +kernel)) (.tup (.cons (.name (.next .here)) (.cons (.name (.next (.next .here))) (.cons (.name (.next (.next (.next .here)))) (.cons (.name (.next (.next (.next (.next .here))))) (.cons (.name (.next (.next (.next (.next (.next .here)))))) (.cons (.name (.next (.next (.next (.next (.next (.next .here))))))) .nil)))))))
      (fun q hq => locN hf hs (by simp at hq; rcases hq with rfl | rfl | rfl | rfl | rfl | rfl <;> decide +kernel)) ?_
    refine go_when (et_bool (ew_or (et_not (et_val (ed_call A hs (ea_cons (ed_var (.next (.next (.next (.here)))) hs (by decide +kernel)) (ea_cons ed_int (ea_cons (ed_gint (i := 6) A hs (by decide +kernel) (by decide +kernel)) ea_nil))) (by constructor <;> first | assumption | rfl | omega)))) (fun h_3 => (ew_or1 (et_not (et_val (ed_all A hs (EvL.r (el_lc (N := ["thing", "teeth", "halls", "wears", "doors", "benches", "smiths", "one"]) (own := [("one", 7)]) (fun _ => true) (fun _ => .bool true) A hs (ei_tup (ed_var (.next (.next (.next (.here)))) hs (by decide +kernel))) (by rw [List.length_map]; have := ok.wearsN; omega) rfl (by decide +kernel) (.drop (.keep (by decide +kernel) (by decide) (.drop (.drop (.drop (.drop (.drop (.drop .nil)))))))) (fun d hd => by
      obtain ⟨g, hi, rfl⟩ := mem_keys hd
      have hh := ok.wears g hi
      have hl2 : g.length ≤ 1000 := by have := hh.1; have := ok.teeth; omega
      exact ⟨_, (.name (.next (.next (.next (.next (.next (.next (.next (.here))))))))), fun X A hs => ⟨ts_nil, fun h_4 => (ed_call A hs (ea_cons (ed_var (.next (.here)) hs (by decide +kernel)) (ea_cons (ed_var (.next (.next (.next (.next (.next (.next (.next (.here)))))))) hs (by decide +kernel)) ea_nil)) (by constructor <;> first | assumption | rfl | omega))⟩⟩))) (bools_map _ _)))))))) (fun ht => ?_) fun _ => ?_
    · rw [all_true] at ht
      simp at ht
      omega
    refine go_when (et_not (et_val (ed_call A hs (ea_cons (ed_var (.next (.here)) hs (by decide +kernel)) (ea_cons (ed_var (.next (.next (.here))) hs (by decide +kernel)) (ea_cons ((ed_len A hs (ed_var (.next (.next (.next (.here)))) hs (by decide +kernel))).is (x := .int (h.wears.length : Int)) (by rw [List.length_map])) (ea_cons (ed_var (.next (.next (.next (.next (.here))))) hs (by decide +kernel)) ea_nil)))) (by constructor <;> first | assumption | rfl | omega)))) (fun ht => ?_) fun _ => ?_
    · simp at ht
    · exact go_out (ed_and (ed_call A hs (ea_cons (ed_var (.next (.next (.here))) hs (by decide +kernel)) (ea_cons (ed_var (.next (.next (.next (.next (.next (.here)))))) hs (by decide +kernel)) ea_nil)) (by constructor <;> first | assumption | rfl | omega)) (fun h_5 => (ed_one (ed_call A hs (ea_cons (ed_var (.next (.next (.here))) hs (by decide +kernel)) (ea_cons (ed_var (.next (.next (.next (.next (.next (.next (.here))))))) hs (by decide +kernel)) ea_nil)) (by constructor <;> first | assumption | rfl | omega))))) (by rfl) hD⟩
/-! ### halls, stands, deeds -/
inductive R_need_house : List PyData → PyData → Prop
  | mk (h : Ho) (ok : HoOk h) : R_need_house [hoD h] .none
theorem sc_need_house : FnScope ((["thing"] : List Str) ++ ([] : List Str)) ["thing"] (defScope (top 62)) := fnScope_by (by decide +kernel)
instance : HasCal "need_house" 9 ["thing"] (SpD R_need_house) := ⟨fun P w K mg T => by
  refine Cal.pure T (i := 62) (more := ([] : List Str)) (List.mem_of_getElem? (i := 21) rfl) (by decide +kernel) sc_need_house (fun _ _ _ _ _ _ us hl => match us, hl with | [_], _ => rfl) (by decide +kernel) (fun ds r h => by cases h <;> rfl) fun X A hs hf ds r h H D hD => ?_
  cases h with
  | mk h ok =>
    simp only [nvOf, unM]
    exact go_when (et_not (et_val (ed_call A hs (ea_cons (ed_var .here hs (by decide +kernel)) ea_nil) (by constructor <;> first | assumption | rfl | omega)))) (fun ht => by cases ht) fun _ => go_nil fun σ H1 e1 _ => hD.nx rfl σ H1 e1⟩
def HallOk (h : Ho) (i : Int) : Prop := 0 ≤ i ∧ i ≤ h.halls - 1
inductive R_is_hall : List PyData → PyData → Prop
  | mk (h : Ho) (i : Int) (hi : HallOk h i) : R_is_hall [hoD h, .int i] (.bool true)
theorem sc_is_hall : FnScope ((["house", "thing"] : List Str) ++ ([] : List Str)) ["house", "thing"] (defScope (top 63)) := fnScope_by (by decide +kernel)
instance : HasCal "is_hall" 3 ["house", "thing"] (SpD R_is_hall) := ⟨fun P w K mg T => by
  refine Cal.pure T (i := 63) (more := ([] : List Str)) (List.mem_of_getElem? (i := 22) rfl) (by decide +kernel) sc_is_hall (fun _ _ _ _ _ _ us hl => match us, hl with | [_, _], _ => rfl) (by decide +kernel) (fun ds r h => by cases h <;> rfl) fun X A hs hf ds r h H D hD => ?_
  cases h with
  | mk h i hi =>
    obtain ⟨h1, h2⟩ := hi
    simp only [nvOf, unM]
    exact go_out (ed_call A hs (ea_cons (ed_var (.next (.here)) hs (by decide +kernel)) (ea_cons ed_int (ea_cons (ed_sub (ed_ix (ed_var .here hs (by decide +kernel)) ed_int (by first | rfl | assumption | decide +kernel)) ed_int) ea_nil))) (by constructor <;> first | assumption | rfl | omega)) (by rfl) hD⟩
inductive R_need_hall : List PyData → PyData → Prop
  | mk (h : Ho) (i : Int) (ok : HoOk h) (hi : HallOk h i) : R_need_hall [hoD h, .int i] .none
theorem sc_need_hall : FnScope ((["house", "thing"] : List Str) ++ ([] : List Str)) ["house", "thing"] (defScope (top 64)) := fnScope_by (by decide +kernel)
instance : HasCal "need_hall" 10 ["house", "thing"] (SpD R_need_hall) := ⟨fun P w K mg T => by
  refine Cal.pure T (i := 64) (more := ([] : List Str)) (List.mem_of_getElem? (i := 23) rfl) (by decide +kernel) sc_need_hall (fun _ _ _ _ _ _ us hl => match us, hl with | [_, _], _ => rfl) (by decide +kernel) (fun ds r h => by cases h <;> rfl) fun X A hs hf ds r h H D hD => ?_
  cases h with
  | mk h i ok hi =>
    simp only [nvOf, unM]
    refine go_expr (ed_call A hs (ea_cons (ed_var .here hs (by decide +kernel)) ea_nil) (by constructor <;> first | assumption | rfl | omega)) ?_
    exact go_when (et_not (et_val (ed_call A hs (ea_cons (ed_var .here hs (by decide +kernel)) (ea_cons (ed_var (.next (.here)) hs (by decide +kernel)) ea_nil)) (by constructor <;> first | assumption | rfl | omega)))) (fun ht => by cases ht) fun _ => go_nil fun σ H1 e1 _ => hD.nx rfl σ H1 e1⟩
inductive R_is_stand : List PyData → PyData → Prop
  | mk (h : Ho) (i : Int) (k : List Int) (hi : HallOk h i) (hk : KeyOk h.teeth k) (hl : k.length ≤ 1000) : R_is_stand [hoD h, standD i k] (.bool true)
theorem sc_is_stand : FnScope ((["house", "thing"] : List Str) ++ ([] : List Str)) ["house", "thing"] (defScope (top 65)) := fnScope_by (by decide +kernel)
instance : HasCal "is_stand" 5 ["house", "thing"] (SpD R_is_stand) := ⟨fun P w K mg T => by
  refine Cal.pure T (i := 65) (more := ([] : List Str)) (List.mem_of_getElem? (i := 24) rfl) (by decide +kernel) sc_is_stand (fun _ _ _ _ _ _ us hl => match us, hl with | [_, _], _ => rfl) (by decide +kernel) (fun ds r h => by cases h <;> rfl) fun X A hs hf ds r h H D hD => ?_
  cases h with
  | mk h i k hi hk hl =>
    simp only [nvOf, unM]
    exact go_out (ed_and (ed_call A hs (ea_cons (ed_var (.next (.here)) hs (by decide +kernel)) (ea_cons ed_int (ea_cons ed_int ea_nil))) (by constructor <;> first | assumption | rfl | omega)) (fun h_1 => (ed_and (ed_call A hs (ea_cons (ed_var .here hs (by decide +kernel)) (ea_cons (ed_ix (ed_var (.next (.here)) hs (by decide +kernel)) ed_int (by first | rfl | assumption | decide +kernel)) ea_nil)) (by constructor <;> first | assumption | rfl | omega)) (fun h_2 => (ed_one (ed_call A hs (ea_cons (ed_ix (ed_var .here hs (by decide +kernel)) ed_int (by first | rfl | assumption | decide +kernel)) (ea_cons (ed_ix (ed_var (.next (.here)) hs (by decide +kernel)) ed_int (by first | rfl | assumption | decide +kernel)) ea_nil)) (by constructor <;> first | assumption | rfl | omega))))))) (by simp) hD⟩
inductive R_need_stand : List PyData → PyData → Prop
  | mk (h : Ho) (i : Int) (k : List Int) (ok : HoOk h) (hi : HallOk h i) (hk : KeyOk h.teeth k) (hl : k.length ≤ 1000) : R_need_stand [hoD h, standD i k] .none
theorem sc_need_stand : FnScope ((["house", "thing"] : List Str) ++ ([] : List Str)) ["house", "thing"] (defScope (top 66)) := fnScope_by (by decide +kernel)
instance : HasCal "need_stand" 10 ["house", "thing"] (SpD R_need_stand) := ⟨fun P w K mg T => by
  refine Cal.pure T (i := 66) (more := ([] : List Str)) (List.mem_of_getElem? (i := 25) rfl) (by decide +kernel) sc_need_stand (fun _ _ _ _ _ _ us hl => match us, hl with | [_, _], _ => rfl) (by decide +kernel) (fun ds r h => by cases h <;> rfl) fun X A hs hf ds r h H D hD => ?_
  cases h with
  | mk h i k ok hi hk hl =>
    simp only [nvOf, unM]
    refine go_expr (ed_call A hs (ea_cons (ed_var .here hs (by decide +kernel)) ea_nil) (by constructor <;> first | assumption | rfl | omega)) ?_
    exact go_when (et_not (et_val (ed_call A hs (ea_cons (ed_var .here hs (by decide +kernel)) (ea_cons (ed_var (.next (.here)) hs (by decide +kernel)) ea_nil)) (by constructor <;> first | assumption | rfl | omega)))) (fun ht => by cases ht) fun _ => go_nil fun σ H1 e1 _ => hD.nx rfl σ H1 e1⟩
/-- a deed of the house -/
def DeedOk (h : Ho) : Deed → Prop
  | .go l => 0 ≤ l ∧ l ≤ (h.wears.length : Int) - 1
  | .file t => 0 ≤ t ∧ t ≤ h.teeth - 1
  | .lift t => 0 ≤ t ∧ t ≤ h.teeth - 1
/-- an entry by its form -/
def EntryOk (h : Ho) : Entry → Prop
  | .deed d => DeedOk h d
  | .shut l => 0 ≤ l ∧ l ≤ (h.wears.length : Int) - 1
  | .seen t lo hi => (0 ≤ t ∧ t ≤ h.teeth - 1) ∧ GapOk (lo, hi)
def Entry.isDeed : Entry → Bool
  | .deed _ => true
  | _ => false
theorem inShut : inD (.str "shut") [.str "go", .str "file", .str "lift"] = false := by decide +kernel
theorem in_go : inD (.str "go") [.str "go", .str "file", .str "lift"] = true := by decide +kernel
theorem in_file : inD (.str "file") [.str "go", .str "file", .str "lift"] = true := by decide +kernel
theorem in_lift : inD (.str "lift") [.str "go", .str "file", .str "lift"] = true := by decide +kernel
inductive R_is_deed : List PyData → PyData → Prop
  | mk (h : Ho) (e : Entry) (he : EntryOk h e) : R_is_deed [hoD h, entryD e] (.bool e.isDeed)
theorem sc_is_deed : FnScope ((["house", "thing"] : List Str) ++ ([] : List Str)) ["house", "thing"] (defScope (top 67)) := fnScope_by (by decide +kernel)
instance : HasCal "is_deed" 3 ["house", "thing"] (SpD R_is_deed) := ⟨fun P w K mg T => by
  refine Cal.pure T (i := 67) (more := ([] : List Str)) (List.mem_of_getElem? (i := 26) rfl) (by decide +kernel) sc_is_deed (fun _ _ _ _ _ _ us hl => match us, hl with | [_, _], _ => rfl) (by decide +kernel) (fun ds r h => by cases h <;> rfl) fun X A hs hf ds r h H D hD => ?_
  cases h with
  | mk h e he =>
    cases e with
    | seen t lo hi =>
      simp only [nvOf, unM]
      refine go_when (et_bool (ew_or (et_not (et_val (ed_call A hs (ea_cons (ed_var (.next (.here)) hs (by decide +kernel)) (ea_cons ed_int (ea_cons ed_int ea_nil))) (by constructor <;> first | assumption | rfl | omega)))) (fun h_1 => (ew_or (et_not (et_val (ed_isStr A hs (ed_ix (ed_var (.next (.here)) hs (by decide +kernel)) ed_int (by first | rfl | assumption | decide +kernel))))) (fun h_2 => (ew_or1 (et_nin (ed_ix (ed_var (.next (.here)) hs (by decide +kernel)) ed_int (by first | rfl | assumption | decide +kernel)) (ed_tup (ea_cons (ed_gstr (i := "go") A hs (by decide +kernel) (by decide +kernel)) (ea_cons (ed_gstr (i := "file") A hs (by decide +kernel) (by decide +kernel)) (ea_cons (ed_gstr (i := "lift") A hs (by decide +kernel) (by decide +kernel)) ea_nil)))) (by first | rfl | assumption | decide +kernel) (by first | rfl | assumption | decide +kernel)))))))) (fun ht => ?_) fun ht => ?_
      · exact go_outX ed_bl (by rfl) hD (Ex.refl _)
      · simp at ht
    | shut l =>
      simp only [nvOf, unM]
      refine go_when (et_bool (ew_or (et_not (et_val (ed_call A hs (ea_cons (ed_var (.next (.here)) hs (by decide +kernel)) (ea_cons ed_int (ea_cons ed_int ea_nil))) (by constructor <;> first | assumption | rfl | omega)))) (fun h_3 => (ew_or (et_not (et_val (ed_isStr A hs (ed_ix (ed_var (.next (.here)) hs (by decide +kernel)) ed_int (by first | rfl | assumption | decide +kernel))))) (fun h_4 => (ew_or1 (et_nin (ed_ix (ed_var (.next (.here)) hs (by decide +kernel)) ed_int (by first | rfl | assumption | decide +kernel)) (ed_tup (ea_cons (ed_gstr (i := "go") A hs (by decide +kernel) (by decide +kernel)) (ea_cons (ed_gstr (i := "file") A hs (by decide +kernel) (by decide +kernel)) (ea_cons (ed_gstr (i := "lift") A hs (by decide +kernel) (by decide +kernel)) ea_nil)))) (by first | rfl | assumption | decide +kernel) (by first | rfl | assumption | decide +kernel)))))))) (fun ht => ?_) fun ht => ?_
      · exact go_outX ed_bl (by rfl) hD (Ex.refl _)
      · simp [inShut] at ht
    | deed d =>
      cases d with
      | go l =>
        obtain ⟨h1, h2⟩ := he
        simp only [nvOf, unM]
        refine go_when (et_bool (ew_or (et_not (et_val (ed_call A hs (ea_cons (ed_var (.next (.here)) hs (by decide +kernel)) (ea_cons ed_int (ea_cons ed_int ea_nil))) (by constructor <;> first | assumption | rfl | omega)))) (fun h_5 => (ew_or (et_not (et_val (ed_isStr A hs (ed_ix (ed_var (.next (.here)) hs (by decide +kernel)) ed_int (by first | rfl | assumption | decide +kernel))))) (fun h_6 => (ew_or1 (et_nin (ed_ix (ed_var (.next (.here)) hs (by decide +kernel)) ed_int (by first | rfl | assumption | decide +kernel)) (ed_tup (ea_cons (ed_gstr (i := "go") A hs (by decide +kernel) (by decide +kernel)) (ea_cons (ed_gstr (i := "file") A hs (by decide +kernel) (by decide +kernel)) (ea_cons (ed_gstr (i := "lift") A hs (by decide +kernel) (by decide +kernel)) ea_nil)))) (by first | rfl | assumption | decide +kernel) (by first | rfl | assumption | decide +kernel)))))))) (fun ht => ?_) fun ht => ?_
        · simp [in_go] at ht
        · exact go_out (ed_call A hs (ea_cons (ed_ix (ed_var (.next (.here)) hs (by decide +kernel)) ed_int (by first | rfl | assumption | decide +kernel)) (ea_cons ed_int (ea_cons (ed_sub (ed_ifT (et_eq A (ed_ix (ed_var (.next (.here)) hs (by decide +kernel)) ed_int (by first | rfl | assumption | decide +kernel)) (ed_gstr (i := "go") A hs (by decide +kernel) (by decide +kernel)) (by first | rfl | assumption | decide +kernel) (by first | rfl | assumption | decide +kernel)) (by decide +kernel) ((ed_len A hs (ed_ix (ed_var .here hs (by decide +kernel)) ed_int (by first | rfl | assumption | decide +kernel))).is (x := .int (h.wears.length : Int)) (by rw [List.length_map]))) ed_int) ea_nil))) (by constructor <;> first | assumption | rfl | omega)) (by rfl) hD
      | file l =>
        obtain ⟨h1, h2⟩ := he
        simp only [nvOf, unM]
        refine go_when (et_bool (ew_or (et_not (et_val (ed_call A hs (ea_cons (ed_var (.next (.here)) hs (by decide +kernel)) (ea_cons ed_int (ea_cons ed_int ea_nil))) (by constructor <;> first | assumption | rfl | omega)))) (fun h_7 => (ew_or (et_not (et_val (ed_isStr A hs (ed_ix (ed_var (.next (.here)) hs (by decide +kernel)) ed_int (by first | rfl | assumption | decide +kernel))))) (fun h_8 => (ew_or1 (et_nin (ed_ix (ed_var (.next (.here)) hs (by decide +kernel)) ed_int (by first | rfl | assumption | decide +kernel)) (ed_tup (ea_cons (ed_gstr (i := "go") A hs (by decide +kernel) (by decide +kernel)) (ea_cons (ed_gstr (i := "file") A hs (by decide +kernel) (by decide +kernel)) (ea_cons (ed_gstr (i := "lift") A hs (by decide +kernel) (by decide +kernel)) ea_nil)))) (by first | rfl | assumption | decide +kernel) (by first | rfl | assumption | decide +kernel)))))))) (fun ht => ?_) fun ht => ?_
        · simp [in_file] at ht
        · exact go_out (ed_call A hs (ea_cons (ed_ix (ed_var (.next (.here)) hs (by decide +kernel)) ed_int (by first | rfl | assumption | decide +kernel)) (ea_cons ed_int (ea_cons (ed_sub (ed_ifF (et_eq A (ed_ix (ed_var (.next (.here)) hs (by decide +kernel)) ed_int (by first | rfl | assumption | decide +kernel)) (ed_gstr (i := "go") A hs (by decide +kernel) (by decide +kernel)) (by first | rfl | assumption | decide +kernel) (by first | rfl | assumption | decide +kernel)) (by decide +kernel) (ed_ix (ed_var .here hs (by decide +kernel)) ed_int (by first | rfl | assumption | decide +kernel))) ed_int) ea_nil))) (by constructor <;> first | assumption | rfl | omega)) (by rfl) hD
      | lift l =>
        obtain ⟨h1, h2⟩ := he
        simp only [nvOf, unM]
        refine go_when (et_bool (ew_or (et_not (et_val (ed_call A hs (ea_cons (ed_var (.next (.here)) hs (by decide +kernel)) (ea_cons ed_int (ea_cons ed_int ea_nil))) (by constructor <;> first | assumption | rfl | omega)))) (fun h_9 => (ew_or (et_not (et_val (ed_isStr A hs (ed_ix (ed_var (.next (.here)) hs (by decide +kernel)) ed_int (by first | rfl | assumption | decide +kernel))))) (fun h_10 => (ew_or1 (et_nin (ed_ix (ed_var (.next (.here)) hs (by decide +kernel)) ed_int (by first | rfl | assumption | decide +kernel)) (ed_tup (ea_cons (ed_gstr (i := "go") A hs (by decide +kernel) (by decide +kernel)) (ea_cons (ed_gstr (i := "file") A hs (by decide +kernel) (by decide +kernel)) (ea_cons (ed_gstr (i := "lift") A hs (by decide +kernel) (by decide +kernel)) ea_nil)))) (by first | rfl | assumption | decide +kernel) (by first | rfl | assumption | decide +kernel)))))))) (fun ht => ?_) fun ht => ?_
        · simp [in_lift] at ht
        · exact go_out (ed_call A hs (ea_cons (ed_ix (ed_var (.next (.here)) hs (by decide +kernel)) ed_int (by first | rfl | assumption | decide +kernel)) (ea_cons ed_int (ea_cons (ed_sub (ed_ifF (et_eq A (ed_ix (ed_var (.next (.here)) hs (by decide +kernel)) ed_int (by first | rfl | assumption | decide +kernel)) (ed_gstr (i := "go") A hs (by decide +kernel) (by decide +kernel)) (by first | rfl | assumption | decide +kernel) (by first | rfl | assumption | decide +kernel)) (by decide +kernel) (ed_ix (ed_var .here hs (by decide +kernel)) ed_int (by first | rfl | assumption | decide +kernel))) ed_int) ea_nil))) (by constructor <;> first | assumption | rfl | omega)) (by rfl) hD⟩
end WK
/-! WKDeed -/
set_option Elab.async false
set_option linter.all false
set_option maxRecDepth 100000
set_option maxHeartbeats 1000000
/-! houses.py: deeds -/
namespace WK
open PySem PySem.Spec PyProof.Rows L2
/-! ### what deeds do -/
def isDoor (hall l : Int) (d : Door) : Bool := decide (d.hall = hall) && decide (d.letter = l)
def doorAt (h : Ho) (hall l : Int) : Option Nat := h.doors.findIdx? (isDoor hall l)
def isSmith (hall : Int) (s : Smith) : Bool := decide (s.hall = hall)
def smithAt (h : Ho) (hall : Int) : Option Smith := h.smiths.find? (isSmith hall)
def optN : Option Nat → PyData
  | none => .none
  | some n => .int (n : Int)
def optS : Option Smith → PyData
  | none => .none
  | some s => smithD s
def hasBench (h : Ho) (hall : Int) : Bool := h.benches.any fun b => b == hall
def away (h : Ho) (hall : Int) : Deed → Bool
  | .go l => isN (optN (doorAt h hall l))
  | .file _ => !hasBench h hall
  | .lift _ => isN (optS (smithAt h hall))
def theDoor (h : Ho) (hall l : Int) : Door := (((doorAt h hall l).bind fun n => h.doors[n]?)).getD ⟨0, 0, 0, []⟩
def hallBehind (h : Ho) (hall : Int) : Deed → Int
  | .go l => (theDoor h hall l).to
  | _ => hall
def wearOf (h : Ho) (d : Deed) (t : Int) : Int := match d with
  | .go l => (((h.wears[l.toNat]?).getD [])[t.toNat]?).getD 0
  | .file s => if (s == t) = true then 1 else 0
  | .lift s => 0 - if (s == t) = true then 1 else 0
def gapOf (h : Ho) (hall : Int) (d : Deed) (t : Int) : Int × Int := match d with
  | .go l => (((theDoor h hall l).gaps[t.toNat]?).getD (0, 0))
  | .file s => if (s == t) = true then (1, 6) else (0, 6)
  | .lift s => if (s == t) = true then (0, ((smithAt h hall).getD ⟨0, 0, 0⟩).most - 1) else (0, 6)
def barAt (h : Ho) (hall : Int) (d : Deed) : Int → List Int → PyData
  | _, [] => .none
  | t, x :: r => if x < (gapOf h hall d t).1 then .tuple [.str "low", .int t] else if (gapOf h hall d t).2 < x then .tuple [.str "high", .int t] else barAt h hall d (t + 1) r
def bar (h : Ho) (hall : Int) (key : List Int) (d : Deed) : PyData := if away h hall d = true then .tuple [.str "away", .none] else barAt h hall d 0 key
def canDo (h : Ho) (hall : Int) (key : List Int) (d : Deed) : Bool := isN (bar h hall key d)
def doneFrom (h : Ho) (d : Deed) : Int → List Int → List Int
  | _, [] => []
  | t, x :: r => max 0 (x - wearOf h d t) :: doneFrom h d (t + 1) r
def doneKey (h : Ho) (d : Deed) (key : List Int) : List Int := doneFrom h d 0 key
/-! ### door_at, smith_at -/
theorem findIdx_none {α : Type} {p : α → Bool} : ∀ {l : List α}, (∀ (j : Nat) (d : α), l[j]? = some d → p d = false) → l.findIdx? p = none
  | [], _ => rfl
  | x :: l, h => by
    rw [List.findIdx?_cons, h 0 x rfl, findIdx_none fun j d e => h (j + 1) d (by simpa using e)]
    rfl
theorem findIdx_some {α : Type} {p : α → Bool} : ∀ {l : List α} {i : Nat} {x : α}, l[i]? = some x → p x = true → (∀ (j : Nat) (d : α), j < i → l[j]? = some d → p d = false) → l.findIdx? p = some i
  | [], i, x, h, _, _ => by simp at h
  | y :: l, 0, x, h, hp, _ => by
    have e : y = x := by simpa using h
    rw [List.findIdx?_cons, e, hp]
    rfl
  | y :: l, i + 1, x, h, hp, hb => by
    rw [List.findIdx?_cons, hb 0 y (by omega) rfl, findIdx_some (i := i) (by simpa using h) hp fun j d hj e => hb (j + 1) d (by omega) (by simpa using e)]
    rfl
theorem eq_door (d : Door) (hall l : Int) : PyData.eqv (.tuple (cutD [.int d.hall, .int d.letter, .int d.to, bD d.gaps] none (some 2))) (.tuple [.int hall, .int l]) = isDoor hall l d := by
  rw [cut_to2]
  show ((d.hall == hall) && ((d.letter == l) && true)) = _
  unfold isDoor
  rw [Bool.and_true, Bool.beq_eq_decide_eq, Bool.beq_eq_decide_eq]
theorem shaped_cut (d : Door) : SeqAt.shaped (.tuple (cutD [.int d.hall, .int d.letter, .int d.to, bD d.gaps] none (some 2))) = true := by
  rw [cut_to2]
  rfl
inductive R_door_at : List PyData → PyData → Prop
  | mk (h : Ho) (hall l : Int) : R_door_at [hoD h, .int hall, .int l] (optN (doorAt h hall l))
theorem sc_door_at : FnScope ((["house", "hall", "letter"] : List Str) ++ (["number", "door"] : List Str)) ["house", "hall", "letter"] (defScope (top 70)) := fnScope_by (by decide +kernel)
instance : HasCal "door_at" 1 ["house", "hall", "letter"] (SpD R_door_at) := ⟨fun P w K mg T => by
  refine Cal.pure T (i := 70) (more := (["number", "door"] : List Str)) (List.mem_of_getElem? (i := 28) rfl) (by decide +kernel) sc_door_at (fun _ _ _ _ _ _ us hl => match us, hl with | [_, _, _], _ => rfl) (by decide +kernel) (fun ds r h => by cases h <;> rfl) fun X A hs hf ds r h H D hD => ?_
  cases h with
  | mk h hall l =>
    simp only [nvOf, unM]
    refine go_forP (fun i nv => (∃ s1 s2, nv = ([("house", .d (hoD h)), ("hall", .d (.int hall)), ("letter", .d (.int l)), ("number", s1), ("door", s2)] : Nv)) ∧ ∀ (j : Nat) (d : Door), j < i → h.doors[j]? = some d → isDoor hall l d = false) A (ei_enum A hs (by decide +kernel) (ed_ix (ed_var .here hs (by decide +kernel)) ed_int (by first | rfl | assumption | decide +kernel)))
      ⟨⟨_, _, rfl⟩, fun j d hj => by omega⟩ ?_ ?_
    · rintro i d nv H' hd ⟨⟨s1, s2, rfl⟩, hb⟩ e1
      rw [enumD_get, List.getElem?_map] at hd
      cases hdd : h.doors[i]? with
      | none =>
        rw [hdd] at hd
        cases hd
      | some dd =>
        rw [hdd] at hd
        obtain rfl : PyData.tuple [.int (i : Int), doorD dd] = d := by simpa using hd
        refine ⟨_, _, .tup (.cons (.name (.next (.next (.next .here)))) (.cons (.name (.next (.next (.next (.next .here))))) .nil)), fun q hq => locN hf hs (by simp at hq; rcases hq with rfl | rfl <;> decide +kernel), ?_⟩
        refine go_when ((et_eq A (ed_slice (ed_var (.next (.next (.next (.next (.here))))) hs (by decide +kernel)) eo_none (eo_some ed_int)) (ed_tup (ea_cons (ed_var (.next (.here)) hs (by decide +kernel)) (ea_cons (ed_var (.next (.next (.here))) hs (by decide +kernel)) ea_nil))) (shaped_cut dd) rfl).is (eq_door dd hall l)) (fun ht => ?_) fun ht => ?_
        · exact go_outX (ed_var (.next (.next (.next (.here)))) hs (by decide +kernel)) (by unfold doorAt; rw [findIdx_some hdd ht hb]; rfl) hD e1
        · refine go_nil fun σ H1 e2 ok => ⟨e2, _, ok, ⟨_, _, rfl⟩, fun j d hj hjd => ?_⟩
          by_cases e : j = i
          · subst e
            rw [hdd] at hjd
            cases hjd
            exact ht
          · exact hb j d (by omega) hjd
    · rintro nv H' e1 ⟨⟨s1, s2, rfl⟩, hb⟩
      exact go_outX ed_non (by
        unfold doorAt
        rw [findIdx_none fun j d hj => hb j d (by rw [enumD_len, List.length_map]; exact (List.getElem?_eq_some_iff.mp hj).1) hj]
        rfl) hD e1⟩
theorem find_none {α : Type} {p : α → Bool} {l : List α} (h : ∀ (j : Nat) (d : α), l[j]? = some d → p d = false) : l.find? p = none := List.find?_eq_none.mpr fun x hx => by
  obtain ⟨j, hj⟩ := List.mem_iff_getElem?.mp hx
  rw [h j x hj]
  decide
theorem find_some {α : Type} {p : α → Bool} : ∀ {l : List α} {i : Nat} {x : α}, l[i]? = some x → p x = true → (∀ (j : Nat) (d : α), j < i → l[j]? = some d → p d = false) → l.find? p = some x
  | [], i, x, h, _, _ => by simp at h
  | y :: l, 0, x, h, hp, _ => by
    have e : y = x := by simpa using h
    rw [List.find?_cons, e, hp]
  | y :: l, i + 1, x, h, hp, hb => by
    rw [List.find?_cons, hb 0 y (by omega) rfl]
    exact find_some (i := i) (by simpa using h) hp fun j d hj e => hb (j + 1) d (by omega) (by simpa using e)
inductive R_smith_at : List PyData → PyData → Prop
  | mk (h : Ho) (hall : Int) : R_smith_at [hoD h, .int hall] (optS (smithAt h hall))
theorem sc_smith_at : FnScope ((["house", "hall"] : List Str) ++ (["smith"] : List Str)) ["house", "hall"] (defScope (top 71)) := fnScope_by (by decide +kernel)
instance : HasCal "smith_at" 1 ["house", "hall"] (SpD R_smith_at) := ⟨fun P w K mg T => by
  refine Cal.pure T (i := 71) (more := (["smith"] : List Str)) (List.mem_of_getElem? (i := 29) rfl) (by decide +kernel) sc_smith_at (fun _ _ _ _ _ _ us hl => match us, hl with | [_, _], _ => rfl) (by decide +kernel) (fun ds r h => by cases h <;> rfl) fun X A hs hf ds r h H D hD => ?_
  cases h with
  | mk h hall =>
    simp only [nvOf, unM]
    refine go_forP (fun i nv => (∃ s1, nv = ([("house", .d (hoD h)), ("hall", .d (.int hall)), ("smith", s1)] : Nv)) ∧ ∀ (j : Nat) (d : Smith), j < i → h.smiths[j]? = some d → isSmith hall d = false) A (ei_tup (ed_ix (ed_var .here hs (by decide +kernel)) ed_int (by first | rfl | assumption | decide +kernel)))
      ⟨⟨_, rfl⟩, fun j d hj => by omega⟩ ?_ ?_
    · rintro i d nv H' hd ⟨⟨s1, rfl⟩, hb⟩ e1
      rw [List.getElem?_map] at hd
      cases hdd : h.smiths[i]? with
      | none =>
        rw [hdd] at hd
        cases hd
      | some dd =>
        rw [hdd] at hd
        obtain rfl : smithD dd = d := by simpa using hd
        refine ⟨_, _, .name (.next (.next .here)), fun q hq => locN hf hs (by simp at hq; rcases hq with rfl; decide +kernel), ?_⟩
        have eq1 : PyData.eqv (.int dd.hall) (.int hall) = isSmith hall dd := by
          show (dd.hall == hall) = _
          unfold isSmith
          rw [Bool.beq_eq_decide_eq]
        refine go_when (((et_eq A (ed_ix (ed_var (.next (.next (.here))) hs (by decide +kernel)) ed_int (by first | rfl | assumption | decide +kernel)) (ed_var (.next (.here)) hs (by decide +kernel)) (by first | rfl | assumption | decide +kernel) (by first | rfl | assumption | decide +kernel))).is eq1) (fun ht => ?_) fun ht => ?_
        · exact go_outX (ed_var (.next (.next (.here))) hs (by decide +kernel)) (by unfold smithAt; rw [find_some hdd ht hb]; rfl) hD e1
        · refine go_nil fun σ H1 e2 ok => ⟨e2, _, ok, ⟨_, rfl⟩, fun j d hj hjd => ?_⟩
          by_cases e : j = i
          · subst e
            rw [hdd] at hjd
            cases hjd
            exact ht
          · exact hb j d (by omega) hjd
    · rintro nv H' e1 ⟨⟨s1, rfl⟩, hb⟩
      exact go_outX ed_non (by
        unfold smithAt
        rw [find_none fun j d hj => hb j d (by rw [List.length_map]; exact (List.getElem?_eq_some_iff.mp hj).1) hj]
        rfl) hD e1⟩
/-! ### is_away .. -/
theorem go_go : PyData.eqv (.str "go") (.str "go") = true := by decide +kernel
theorem file_go : PyData.eqv (.str "file") (.str "go") = false := by decide +kernel
theorem lift_go : PyData.eqv (.str "lift") (.str "go") = false := by decide +kernel
theorem file_file : PyData.eqv (.str "file") (.str "file") = true := by decide +kernel
theorem lift_file : PyData.eqv (.str "lift") (.str "file") = false := by decide +kernel
theorem flat_zD (l : List Int) : (zD l).all flatD = true := by
  unfold zD
  rw [List.all_map]
  exact List.all_eq_true.mpr fun _ _ => rfl
theorem inD_zD (i : Int) (l : List Int) : inD (.int i) (zD l) = l.any fun b => b == i := by
  unfold inD zD
  rw [List.any_map]
  rfl
inductive R_is_away : List PyData → PyData → Prop
  | mk (h : Ho) (hall : Int) (d : Deed) : R_is_away [hoD h, .int hall, deedD d] (.bool (away h hall d))
theorem sc_is_away : FnScope ((["house", "hall", "deed"] : List Str) ++ ([] : List Str)) ["house", "hall", "deed"] (defScope (top 72)) := fnScope_by (by decide +kernel)
instance : HasCal "is_away" 2 ["house", "hall", "deed"] (SpD R_is_away) := ⟨fun P w K mg T => by
  refine Cal.pure T (i := 72) (more := ([] : List Str)) (List.mem_of_getElem? (i := 30) rfl) (by decide +kernel) sc_is_away (fun _ _ _ _ _ _ us hl => match us, hl with | [_, _, _], _ => rfl) (by decide +kernel) (fun ds r h => by cases h <;> rfl) fun X A hs hf ds r h H D hD => ?_
  cases h with
  | mk h hall d =>
    have hfl := flat_zD h.benches
    cases d with
    | go l =>
      simp only [nvOf, unM]
      refine go_when (((et_eq A (ed_ix (ed_var (.next (.next (.here))) hs (by decide +kernel)) ed_int (by first | rfl | assumption | decide +kernel)) (ed_gstr (i := "go") A hs (by decide +kernel) (by decide +kernel)) (by first | rfl | assumption | decide +kernel) (by first | rfl | assumption | decide +kernel))).is go_go) (fun ht => ?_) fun ht => by cases ht
      exact go_outX (ed_is (ed_call A hs (ea_cons (ed_var .here hs (by decide +kernel)) (ea_cons (ed_var (.next (.here)) hs (by decide +kernel)) (ea_cons (ed_ix (ed_var (.next (.next (.here))) hs (by decide +kernel)) ed_int (by first | rfl | assumption | decide +kernel)) ea_nil))) (by constructor <;> first | assumption | rfl | omega)) ed_non) (by rfl) hD (Ex.refl _)
    | file t =>
      simp only [nvOf, unM]
      refine go_when (((et_eq A (ed_ix (ed_var (.next (.next (.here))) hs (by decide +kernel)) ed_int (by first | rfl | assumption | decide +kernel)) (ed_gstr (i := "go") A hs (by decide +kernel) (by decide +kernel)) (by first | rfl | assumption | decide +kernel) (by first | rfl | assumption | decide +kernel))).is file_go) (fun ht => by cases ht) fun ht => ?_
      exact go_outX (ed_ifT (et_eq A (ed_ix (ed_var (.next (.next (.here))) hs (by decide +kernel)) ed_int (by first | rfl | assumption | decide +kernel)) (ed_gstr (i := "file") A hs (by decide +kernel) (by decide +kernel)) (by first | rfl | assumption | decide +kernel) (by first | rfl | assumption | decide +kernel)) file_file (ed_nin (ed_var (.next (.here)) hs (by decide +kernel)) (ed_ix (ed_var .here hs (by decide +kernel)) ed_int (by first | rfl | assumption | decide +kernel)) (by first | rfl | assumption | decide +kernel) (by first | rfl | assumption | decide +kernel))) (by rw [inD_zD]; rfl) hD (Ex.refl _)
    | lift t =>
      simp only [nvOf, unM]
      refine go_when (((et_eq A (ed_ix (ed_var (.next (.next (.here))) hs (by decide +kernel)) ed_int (by first | rfl | assumption | decide +kernel)) (ed_gstr (i := "go") A hs (by decide +kernel) (by decide +kernel)) (by first | rfl | assumption | decide +kernel) (by first | rfl | assumption | decide +kernel))).is lift_go) (fun ht => by cases ht) fun ht => ?_
      exact go_outX (ed_ifF (et_eq A (ed_ix (ed_var (.next (.next (.here))) hs (by decide +kernel)) ed_int (by first | rfl | assumption | decide +kernel)) (ed_gstr (i := "file") A hs (by decide +kernel) (by decide +kernel)) (by first | rfl | assumption | decide +kernel) (by first | rfl | assumption | decide +kernel)) lift_file (ed_is (ed_call A hs (ea_cons (ed_var .here hs (by decide +kernel)) (ea_cons (ed_var (.next (.here)) hs (by decide +kernel)) ea_nil)) (by constructor <;> first | assumption | rfl | omega)) ed_non)) (by rfl) hD (Ex.refl _)⟩
theorem theDoor_of {h : Ho} {hall l : Int} (na : away h hall (.go l) = false) : ∃ n : Nat, doorAt h hall l = some n ∧ h.doors[n]? = some (theDoor h hall l) ∧ isDoor hall l (theDoor h hall l) = true := by
  have na : isN (optN (doorAt h hall l)) = false := na
  cases e : doorAt h hall l with
  | none =>
    rw [e] at na
    cases na
  | some n =>
    refine ⟨n, rfl, ?_⟩
    have h2 := List.findIdx?_eq_some_iff_getElem.mp (show h.doors.findIdx? (isDoor hall l) = some n from e)
    obtain ⟨hn, hp, _⟩ := h2
    have e2 : h.doors[n]? = some h.doors[n] := List.getElem?_eq_getElem hn
    have e3 : theDoor h hall l = h.doors[n] := by
      unfold theDoor
      rw [e]
      show ((h.doors[n]?)).getD _ = _
      rw [e2]
      rfl
    rw [e3]
    exact ⟨e2, hp⟩
theorem atI_doors {h : Ho} {n : Nat} {d : Door} (e : h.doors[n]? = some d) : atI (h.doors.map doorD) (n : Int) = some (doorD d) := atI_of (by omega) (by rw [List.getElem?_map, Int.toNat_natCast, e]; rfl)
inductive R_hall_behind : List PyData → PyData → Prop
  | mk (h : Ho) (hall : Int) (d : Deed) (na : away h hall d = false) : R_hall_behind [hoD h, .int hall, deedD d] (.int (hallBehind h hall d))
theorem sc_hall_behind : FnScope ((["house", "hall", "deed"] : List Str) ++ ([] : List Str)) ["house", "hall", "deed"] (defScope (top 73)) := fnScope_by (by decide +kernel)
instance : HasCal "hall_behind" 2 ["house", "hall", "deed"] (SpD R_hall_behind) := ⟨fun P w K mg T => by
  refine Cal.pure T (i := 73) (more := ([] : List Str)) (List.mem_of_getElem? (i := 31) rfl) (by decide +kernel) sc_hall_behind (fun _ _ _ _ _ _ us hl => match us, hl with | [_, _, _], _ => rfl) (by decide +kernel) (fun ds r h => by cases h <;> rfl) fun X A hs hf ds r h H D hD => ?_
  cases h with
  | mk h hall d na =>
    cases d with
    | go l =>
      obtain ⟨n, en, ed, _⟩ := theDoor_of na
      have ea := atI_doors ed
      simp only [nvOf, unM]
      exact go_outX (ed_ifT (et_eq A (ed_ix (ed_var (.next (.next (.here))) hs (by decide +kernel)) ed_int (by first | rfl | assumption | decide +kernel)) (ed_gstr (i := "go") A hs (by decide +kernel) (by decide +kernel)) (by first | rfl | assumption | decide +kernel) (by first | rfl | assumption | decide +kernel)) go_go (ed_ix (ed_ix (ed_ix (ed_var .here hs (by decide +kernel)) ed_int (by first | rfl | assumption | decide +kernel)) ((ed_call A hs (ea_cons (ed_var .here hs (by decide +kernel)) (ea_cons (ed_var (.next (.here)) hs (by decide +kernel)) (ea_cons (ed_ix (ed_var (.next (.next (.here))) hs (by decide +kernel)) ed_int (by first | rfl | assumption | decide +kernel)) ea_nil))) (by constructor <;> first | assumption | rfl | omega)).is (x := .int (n : Int)) (by rw [en]; rfl)) (by first | rfl | assumption | decide +kernel)) ed_int (by first | rfl | assumption | decide +kernel))) (by rfl) hD (Ex.refl _)
    | file t =>
      simp only [nvOf, unM]
      exact go_outX (ed_ifF (et_eq A (ed_ix (ed_var (.next (.next (.here))) hs (by decide +kernel)) ed_int (by first | rfl | assumption | decide +kernel)) (ed_gstr (i := "go") A hs (by decide +kernel) (by decide +kernel)) (by first | rfl | assumption | decide +kernel) (by first | rfl | assumption | decide +kernel)) file_go (ed_var (.next (.here)) hs (by decide +kernel))) (by rfl) hD (Ex.refl _)
    | lift t =>
      simp only [nvOf, unM]
      exact go_outX (ed_ifF (et_eq A (ed_ix (ed_var (.next (.next (.here))) hs (by decide +kernel)) ed_int (by first | rfl | assumption | decide +kernel)) (ed_gstr (i := "go") A hs (by decide +kernel) (by decide +kernel)) (by first | rfl | assumption | decide +kernel) (by first | rfl | assumption | decide +kernel)) lift_go (ed_var (.next (.here)) hs (by decide +kernel))) (by rfl) hD (Ex.refl _)⟩
theorem wear_at {h : Ho} (ok : HoOk h) {l t : Int} (hl : DeedOk h (.go l)) (ht : 0 ≤ t ∧ t < h.teeth) : ∃ w, atI (h.wears.map kD) l = some (kD w) ∧ atI (zD w) t = some (.int (wearOf h (.go l) t)) := by
  obtain ⟨h1, h2⟩ := hl
  have hlt : l.toNat < h.wears.length := by omega
  have e1 : h.wears[l.toNat]? = some h.wears[l.toNat] := List.getElem?_eq_getElem hlt
  have w1 := (ok.wears _ (List.getElem_mem hlt)).1
  have htl : t.toNat < h.wears[l.toNat].length := by omega
  refine ⟨h.wears[l.toNat], atI_of h1 (by rw [List.getElem?_map, e1]; rfl), ?_⟩
  have e2 : h.wears[l.toNat][t.toNat]? = some h.wears[l.toNat][t.toNat] := List.getElem?_eq_getElem htl
  have e3 : wearOf h (.go l) t = h.wears[l.toNat][t.toNat] := by
    show (((h.wears[l.toNat]?).getD [])[t.toNat]?).getD 0 = _
    rw [e1]
    show ((h.wears[l.toNat])[t.toNat]?).getD 0 = _
    rw [e2]
    rfl
  rw [e3]
  exact atI_zD ht.1 e2
inductive R_wear_of : List PyData → PyData → Prop
  | mk (h : Ho) (d : Deed) (t : Int) (ok : HoOk h) (hd : DeedOk h d) (ht : 0 ≤ t ∧ t < h.teeth) : R_wear_of [hoD h, deedD d, .int t] (.int (wearOf h d t))
theorem sc_wear_of : FnScope ((["house", "deed", "tooth"] : List Str) ++ ([] : List Str)) ["house", "deed", "tooth"] (defScope (top 74)) := fnScope_by (by decide +kernel)
instance : HasCal "wear_of" 1 ["house", "deed", "tooth"] (SpD R_wear_of) := ⟨fun P w K mg T => by
  refine Cal.pure T (i := 74) (more := ([] : List Str)) (List.mem_of_getElem? (i := 32) rfl) (by decide +kernel) sc_wear_of (fun _ _ _ _ _ _ us hl => match us, hl with | [_, _, _], _ => rfl) (by decide +kernel) (fun ds r h => by cases h <;> rfl) fun X A hs hf ds r h H D hD => ?_
  cases h with
  | mk h d t ok hd ht =>
    cases d with
    | go l =>
      obtain ⟨wl, ea1, ea2⟩ := wear_at ok hd ht
      simp only [nvOf, unM]
      refine go_when (((et_eq A (ed_ix (ed_var (.next (.here)) hs (by decide +kernel)) ed_int (by first | rfl | assumption | decide +kernel)) (ed_gstr (i := "go") A hs (by decide +kernel) (by decide +kernel)) (by first | rfl | assumption | decide +kernel) (by first | rfl | assumption | decide +kernel))).is go_go) (fun ht => ?_) fun ht => by cases ht
      exact go_outX (ed_ix (ed_ix (ed_ix (ed_var .here hs (by decide +kernel)) ed_int (by first | rfl | assumption | decide +kernel)) (ed_ix (ed_var (.next (.here)) hs (by decide +kernel)) ed_int (by first | rfl | assumption | decide +kernel)) (by first | rfl | assumption | decide +kernel)) (ed_var (.next (.next (.here))) hs (by decide +kernel)) (by first | rfl | assumption | decide +kernel)) (by rfl) hD (Ex.refl _)
    | file s =>
      simp only [nvOf, unM]
      refine go_when (((et_eq A (ed_ix (ed_var (.next (.here)) hs (by decide +kernel)) ed_int (by first | rfl | assumption | decide +kernel)) (ed_gstr (i := "go") A hs (by decide +kernel) (by decide +kernel)) (by first | rfl | assumption | decide +kernel) (by first | rfl | assumption | decide +kernel))).is file_go) (fun ht => by cases ht) fun ht => ?_
      exact go_outX (ed_ifT (et_eq A (ed_ix (ed_var (.next (.here)) hs (by decide +kernel)) ed_int (by first | rfl | assumption | decide +kernel)) (ed_gstr (i := "file") A hs (by decide +kernel) (by decide +kernel)) (by first | rfl | assumption | decide +kernel) (by first | rfl | assumption | decide +kernel)) file_file (ed_intb A hs (ed_eq A (ed_ix (ed_var (.next (.here)) hs (by decide +kernel)) ed_int (by first | rfl | assumption | decide +kernel)) (ed_var (.next (.next (.here))) hs (by decide +kernel)) (by first | rfl | assumption | decide +kernel) (by first | rfl | assumption | decide +kernel)))) (by rfl) hD (Ex.refl _)
    | lift s =>
      simp only [nvOf, unM]
      refine go_when (((et_eq A (ed_ix (ed_var (.next (.here)) hs (by decide +kernel)) ed_int (by first | rfl | assumption | decide +kernel)) (ed_gstr (i := "go") A hs (by decide +kernel) (by decide +kernel)) (by first | rfl | assumption | decide +kernel) (by first | rfl | assumption | decide +kernel))).is lift_go) (fun ht => by cases ht) fun ht => ?_
      exact go_outX (ed_ifF (et_eq A (ed_ix (ed_var (.next (.here)) hs (by decide +kernel)) ed_int (by first | rfl | assumption | decide +kernel)) (ed_gstr (i := "file") A hs (by decide +kernel) (by decide +kernel)) (by first | rfl | assumption | decide +kernel) (by first | rfl | assumption | decide +kernel)) lift_file (ed_sub ed_int (ed_intb A hs (ed_eq A (ed_ix (ed_var (.next (.here)) hs (by decide +kernel)) ed_int (by first | rfl | assumption | decide +kernel)) (ed_var (.next (.next (.here))) hs (by decide +kernel)) (by first | rfl | assumption | decide +kernel) (by first | rfl | assumption | decide +kernel))))) (by rfl) hD (Ex.refl _)⟩
theorem gap_at {h : Ho} (ok : HoOk h) {hall l t : Int} {n : Nat} (ed : h.doors[n]? = some (theDoor h hall l)) (ht : 0 ≤ t ∧ t < h.teeth) : atI ((theDoor h hall l).gaps.map gD) t = some (gD (gapOf h hall (.go l) t)) := by
  have g1 := (ok.doors _ (List.mem_of_getElem? ed)).gaps.1
  have hlt : t.toNat < (theDoor h hall l).gaps.length := by omega
  have e2 : (theDoor h hall l).gaps[t.toNat]? = some (theDoor h hall l).gaps[t.toNat] := List.getElem?_eq_getElem hlt
  refine atI_of ht.1 ?_
  rw [List.getElem?_map, e2]
  show some (gD _) = some (gD (((theDoor h hall l).gaps[t.toNat]?).getD (0, 0)))
  rw [e2]
  rfl
theorem smith_of {h : Ho} {hall t : Int} (na : away h hall (.lift t) = false) : optS (smithAt h hall) = smithD ((smithAt h hall).getD ⟨0, 0, 0⟩) := by
  have na : isN (optS (smithAt h hall)) = false := na
  cases e : smithAt h hall with
  | none =>
    rw [e] at na
    cases na
  | some s => rfl
inductive R_gap_of : List PyData → PyData → Prop
  | mk (h : Ho) (hall : Int) (d : Deed) (t : Int) (ok : HoOk h) (na : away h hall d = false) (ht : 0 ≤ t ∧ t < h.teeth) : R_gap_of [hoD h, .int hall, deedD d, .int t] (gD (gapOf h hall d t))
theorem sc_gap_of : FnScope ((["house", "hall", "deed", "tooth"] : List Str) ++ ([] : List Str)) ["house", "hall", "deed", "tooth"] (defScope (top 75)) := fnScope_by (by decide +kernel)
instance : HasCal "gap_of" 2 ["house", "hall", "deed", "tooth"] (SpD R_gap_of) := ⟨fun P w K mg T => by
  refine Cal.pure T (i := 75) (more := ([] : List Str)) (List.mem_of_getElem? (i := 33) rfl) (by decide +kernel) sc_gap_of (fun _ _ _ _ _ _ us hl => match us, hl with | [_, _, _, _], _ => rfl) (by decide +kernel) (fun ds r h => by cases h <;> rfl) fun X A hs hf ds r h H D hD => ?_
  cases h with
  | mk h hall d t ok na ht =>
    cases d with
    | go l =>
      obtain ⟨n, en, ed, _⟩ := theDoor_of na
      have ea := atI_doors ed
      have ea2 := gap_at ok ed ht
      simp only [nvOf, unM]
      refine go_when (((et_eq A (ed_ix (ed_var (.next (.next (.here))) hs (by decide +kernel)) ed_int (by first | rfl | assumption | decide +kernel)) (ed_gstr (i := "go") A hs (by decide +kernel) (by decide +kernel)) (by first | rfl | assumption | decide +kernel) (by first | rfl | assumption | decide +kernel))).is go_go) (fun ht => ?_) fun ht => by cases ht
      exact go_outX (ed_ix (ed_ix (ed_ix (ed_ix (ed_var .here hs (by decide +kernel)) ed_int (by first | rfl | assumption | decide +kernel)) ((ed_call A hs (ea_cons (ed_var .here hs (by decide +kernel)) (ea_cons (ed_var (.next (.here)) hs (by decide +kernel)) (ea_cons (ed_ix (ed_var (.next (.next (.here))) hs (by decide +kernel)) ed_int (by first | rfl | assumption | decide +kernel)) ea_nil))) (by constructor <;> first | assumption | rfl | omega)).is (x := .int (n : Int)) (by rw [en]; rfl)) (by first | rfl | assumption | decide +kernel)) ed_int (by first | rfl | assumption | decide +kernel)) (ed_var (.next (.next (.next (.here)))) hs (by decide +kernel)) (by first | rfl | assumption | decide +kernel)) (by rfl) hD (Ex.refl _)
    | file s =>
      simp only [nvOf, unM]
      refine go_when (((et_eq A (ed_ix (ed_var (.next (.next (.here))) hs (by decide +kernel)) ed_int (by first | rfl | assumption | decide +kernel)) (ed_gstr (i := "go") A hs (by decide +kernel) (by decide +kernel)) (by first | rfl | assumption | decide +kernel) (by first | rfl | assumption | decide +kernel))).is file_go) (fun ht => by cases ht) fun ht => ?_
      by_cases e : (s == t) = true
      · refine go_when (((et_ne A (ed_ix (ed_var (.next (.next (.here))) hs (by decide +kernel)) ed_int (by first | rfl | assumption | decide +kernel)) (ed_var (.next (.next (.next (.here)))) hs (by decide +kernel)) (by first | rfl | assumption | decide +kernel) (by first | rfl | assumption | decide +kernel))).is (c := false) (by show (!(s == t)) = false; rw [e]; rfl)) (fun ht => by cases ht) fun ht => ?_
        exact go_outX (ed_ifT (et_eq A (ed_ix (ed_var (.next (.next (.here))) hs (by decide +kernel)) ed_int (by first | rfl | assumption | decide +kernel)) (ed_gstr (i := "file") A hs (by decide +kernel) (by decide +kernel)) (by first | rfl | assumption | decide +kernel) (by first | rfl | assumption | decide +kernel)) file_file (ed_tup (ea_cons ed_int (ea_cons (ed_gint (i := 6) A hs (by decide +kernel) (by decide +kernel)) ea_nil)))) (by show _ = gD (if (s == t) = true then (1, 6) else (0, 6)); rw [if_pos e]; rfl) hD (Ex.refl _)
      · have e2 : (s == t) = false := by simpa using e
        refine go_when (((et_ne A (ed_ix (ed_var (.next (.next (.here))) hs (by decide +kernel)) ed_int (by first | rfl | assumption | decide +kernel)) (ed_var (.next (.next (.next (.here)))) hs (by decide +kernel)) (by first | rfl | assumption | decide +kernel) (by first | rfl | assumption | decide +kernel))).is (c := true) (by show (!(s == t)) = true; rw [e2]; rfl)) (fun ht => ?_) fun ht => by cases ht
        exact go_outX (ed_tup (ea_cons ed_int (ea_cons (ed_gint (i := 6) A hs (by decide +kernel) (by decide +kernel)) ea_nil))) (by show _ = gD (if (s == t) = true then (1, 6) else (0, 6)); rw [if_neg e]; rfl) hD (Ex.refl _)
    | lift s =>
      simp only [nvOf, unM]
      refine go_when (((et_eq A (ed_ix (ed_var (.next (.next (.here))) hs (by decide +kernel)) ed_int (by first | rfl | assumption | decide +kernel)) (ed_gstr (i := "go") A hs (by decide +kernel) (by decide +kernel)) (by first | rfl | assumption | decide +kernel) (by first | rfl | assumption | decide +kernel))).is lift_go) (fun ht => by cases ht) fun ht => ?_
      by_cases e : (s == t) = true
      · refine go_when (((et_ne A (ed_ix (ed_var (.next (.next (.here))) hs (by decide +kernel)) ed_int (by first | rfl | assumption | decide +kernel)) (ed_var (.next (.next (.next (.here)))) hs (by decide +kernel)) (by first | rfl | assumption | decide +kernel) (by first | rfl | assumption | decide +kernel))).is (c := false) (by show (!(s == t)) = false; rw [e]; rfl)) (fun ht => by cases ht) fun ht => ?_
        exact go_outX (ed_ifF (et_eq A (ed_ix (ed_var (.next (.next (.here))) hs (by decide +kernel)) ed_int (by first | rfl | assumption | decide +kernel)) (ed_gstr (i := "file") A hs (by decide +kernel) (by decide +kernel)) (by first | rfl | assumption | decide +kernel) (by first | rfl | assumption | decide +kernel)) lift_file (ed_tup (ea_cons ed_int (ea_cons (ed_sub (ed_ix ((ed_call A hs (ea_cons (ed_var .here hs (by decide +kernel)) (ea_cons (ed_var (.next (.here)) hs (by decide +kernel)) ea_nil)) (by constructor <;> first | assumption | rfl | omega)).is (smith_of na)) ed_int (by first | rfl | assumption | decide +kernel)) ed_int) ea_nil)))) (by show _ = gD (if (s == t) = true then (0, ((smithAt h hall).getD ⟨0, 0, 0⟩).most - 1) else (0, 6)); rw [if_pos e]; rfl) hD (Ex.refl _)
      · have e2 : (s == t) = false := by simpa using e
        refine go_when (((et_ne A (ed_ix (ed_var (.next (.next (.here))) hs (by decide +kernel)) ed_int (by first | rfl | assumption | decide +kernel)) (ed_var (.next (.next (.next (.here)))) hs (by decide +kernel)) (by first | rfl | assumption | decide +kernel) (by first | rfl | assumption | decide +kernel))).is (c := true) (by show (!(s == t)) = true; rw [e2]; rfl)) (fun ht => ?_) fun ht => by cases ht
        exact go_outX (ed_tup (ea_cons ed_int (ea_cons (ed_gint (i := 6) A hs (by decide +kernel) (by decide +kernel)) ea_nil))) (by show _ = gD (if (s == t) = true then (0, ((smithAt h hall).getD ⟨0, 0, 0⟩).most - 1) else (0, 6)); rw [if_neg e]; rfl) hD (Ex.refl _)⟩
inductive R_bar_of : List PyData → PyData → Prop
  | mk (h : Ho) (hall : Int) (key : List Int) (d : Deed) (ok : HoOk h) (hk : KeyOk h.teeth key) : R_bar_of [hoD h, standD hall key, deedD d] (bar h hall key d)
theorem sc_bar_of : FnScope ((["house", "stand", "deed"] : List Str) ++ (["hall", "key", "tooth", "height", "low", "high"] : List Str)) ["house", "stand", "deed"] (defScope (top 76)) := fnScope_by (by decide +kernel)
instance : HasCal "bar_of" 3 ["house", "stand", "deed"] (SpD R_bar_of) := ⟨fun P w K mg T => by
  refine Cal.pure T (i := 76) (more := (["hall", "key", "tooth", "height", "low", "high"] : List Str)) (List.mem_of_getElem? (i := 34) rfl) (by decide +kernel) sc_bar_of (fun _ _ _ _ _ _ us hl => match us, hl with | [_, _, _], _ => rfl) (by decide +kernel) (fun ds r h => by cases h <;> rfl) fun X A hs hf ds r h H D hD => ?_
  cases h with
  | mk h hall key d ok hk =>
    simp only [nvOf, unM]
    refine go_unp A (ed_var (.next (.here)) hs (by decide +kernel)) (.tup (.cons (.name (.next (.next (.next .here)))) (.cons (.name (.next (.next (.next (.next .here))))) .nil))) (fun q hq => locN hf hs (by simp at hq; rcases hq with rfl | rfl <;> decide +kernel)) ?_
    refine go_when (et_val (ed_call A hs (ea_cons (ed_var .here hs (by decide +kernel)) (ea_cons (ed_var (.next (.next (.next (.here)))) hs (by decide +kernel)) (ea_cons (ed_var (.next (.next (.here))) hs (by decide +kernel)) ea_nil))) (by constructor <;> first | assumption | rfl | omega))) (fun ht => ?_) fun ht => ?_
    · exact go_outX (ed_tup (ea_cons (ed_gstr (i := "away") A hs (by decide +kernel) (by decide +kernel)) (ea_cons ed_non ea_nil))) (by unfold bar; rw [if_pos ht]) hD (Ex.refl _)
    have na := ht
    have e0 : bar h hall key d = barAt h hall d 0 key := by
      unfold bar
      rw [if_neg (by rw [na]; decide)]
    refine go_forP (fun i nv => (∃ s1 s2 s3 s4, nv = ([("house", .d (hoD h)), ("stand", .d (standD hall key)), ("deed", .d (deedD d)), ("hall", .d (.int hall)), ("key", .d (kD key)), ("tooth", s1), ("height", s2), ("low", s3), ("high", s4)] : Nv)) ∧ bar h hall key d = barAt h hall d (i : Int) (key.drop i)) A (ei_enum A hs (by decide +kernel) (ed_var (.next (.next (.next (.next (.here))))) hs (by decide +kernel)))
      ⟨⟨_, _, _, _, rfl⟩, by rw [e0]; rfl⟩ ?_ ?_
    · rintro i dt nv H' hd ⟨⟨s1, s2, s3, s4, rfl⟩, hb⟩ e1
      rw [enumD_get, zD_get] at hd
      cases hx : key[i]? with
      | none =>
        rw [hx] at hd
        cases hd
      | some x =>
        rw [hx] at hd
        obtain rfl : PyData.tuple [.int (i : Int), .int x] = dt := by simpa using hd
        have hi := (List.getElem?_eq_some_iff.mp hx).1
        have htt : 0 ≤ (i : Int) ∧ (i : Int) < h.teeth := by have := hk.1; omega
        have hdr : key.drop i = x :: key.drop (i + 1) := by
          rw [List.drop_eq_getElem_cons hi]
          congr 1
          have := (List.getElem?_eq_some_iff.mp hx).2
          exact this
        rw [hdr] at hb
        refine ⟨_, _, .tup (.cons (.name (.next (.next (.next (.next (.next (.here))))))) (.cons (.name (.next (.next (.next (.next (.next (.next (.here)))))))) .nil)), fun q hq => locN hf hs (by simp at hq; rcases hq with rfl | rfl <;> decide +kernel), ?_⟩
        refine go_unp A (ed_call A hs (ea_cons (ed_var .here hs (by decide +kernel)) (ea_cons (ed_var (.next (.next (.next (.here)))) hs (by decide +kernel)) (ea_cons (ed_var (.next (.next (.here))) hs (by decide +kernel)) (ea_cons (ed_var (.next (.next (.next (.next (.next (.here)))))) hs (by decide +kernel)) ea_nil)))) (by constructor <;> first | assumption | rfl | omega)) (.tup (.cons (.name (.next (.next (.next (.next (.next (.next (.next (.here))))))))) (.cons (.name (.next (.next (.next (.next (.next (.next (.next (.next (.here)))))))))) .nil))) (fun q hq => locN hf hs (by simp at hq; rcases hq with rfl | rfl <;> decide +kernel)) ?_
        refine go_when (et_lt (ed_var (.next (.next (.next (.next (.next (.next (.here))))))) hs (by decide +kernel)) (ed_var (.next (.next (.next (.next (.next (.next (.next (.here)))))))) hs (by decide +kernel))) (fun ht => ?_) fun ht => ?_
        · have ht : x < (gapOf h hall d i).1 := of_decide_eq_true ht
          exact go_outX (ed_tup (ea_cons (ed_gstr (i := "low") A hs (by decide +kernel) (by decide +kernel)) (ea_cons (ed_var (.next (.next (.next (.next (.next (.here)))))) hs (by decide +kernel)) ea_nil))) (by rw [hb]; unfold barAt; rw [if_pos ht]) hD e1
        have ht1 : ¬ x < (gapOf h hall d i).1 := of_decide_eq_false ht
        refine go_when (et_gt (ed_var (.next (.next (.next (.next (.next (.next (.here))))))) hs (by decide +kernel)) (ed_var (.next (.next (.next (.next (.next (.next (.next (.next (.here))))))))) hs (by decide +kernel))) (fun ht => ?_) fun ht => ?_
        · have ht : (gapOf h hall d i).2 < x := of_decide_eq_true ht
          exact go_outX (ed_tup (ea_cons (ed_gstr (i := "high") A hs (by decide +kernel) (by decide +kernel)) (ea_cons (ed_var (.next (.next (.next (.next (.next (.here)))))) hs (by decide +kernel)) ea_nil))) (by rw [hb]; unfold barAt; rw [if_neg ht1, if_pos ht]) hD e1
        have ht2 : ¬ (gapOf h hall d i).2 < x := of_decide_eq_false ht
        refine go_nil fun σ H1 e2 ok => ⟨e2, _, ok, ⟨_, _, _, _, rfl⟩, ?_⟩
        rw [hb]
        show (if x < _ then _ else if _ < x then _ else _) = _
        rw [if_neg ht1, if_neg ht2]
        rfl
    · rintro nv H' e1 ⟨⟨s1, s2, s3, s4, rfl⟩, hb⟩
      exact go_outX ed_non (by
        rw [hb, enumD_len, zD_len, List.drop_length]
        rfl) hD e1⟩
end WK
/-! WKPar -/
set_option Elab.async false
set_option linter.all false
set_option maxRecDepth 100000
set_option maxHeartbeats 1000000
/-! x, y = a, b: which stores CPython swaps, told by the scope. -/
namespace WK
open PySem PySem.Spec PyProof.Rows L2
def fnKind (sc : Scope) : Bool := match sc.kind with
  | .function => true
  | _ => false
def isStar : Expr → Bool
  | .Starred .. => true
  | _ => false
def swB2 (sc : Scope) (n m : Str) (px py : Pos) (a b : Expr) : Bool :=
  fnKind sc && decide (sc.names.lookup n = some .local) && decide (sc.names.lookup m = some .local) && decide (py.line = px.line) && decide (n ≠ m) && plainE a && plainE b && !([a, b].all (foldedForSure 8)) && !([a, b].all (constantsAlone 8))
theorem nostar {a : Expr} : (match a with | .Starred .. => true | _ => false) = true → plainE a = false := by
  cases a <;> intro h <;> first
    | rfl
    | cases h
theorem sw_of2 {X : Cx} {sc : Scope} {n m : Str} {px py pt pt2 : Pos} {a b : Expr} {kt k2 : Nat} (hs : X.env.scope = sc) (h : swB2 sc n m px py a b = true) : swappedStores [.Tuple [.Name n px, .Name m py] kt pt] (.Tuple [a, b] k2 pt2) X.env = Pure.pure (some [n, m]) := by
  unfold swB2 at h
  simp only [Bool.and_eq_true, Bool.not_eq_true', decide_eq_true_eq] at h
  obtain ⟨⟨⟨⟨⟨⟨⟨⟨h1, h2⟩, h3⟩, h4⟩, h5⟩, h6⟩, h7⟩, h8⟩, h9⟩ := h
  have hk : sc.kind = .function := by
    unfold fnKind at h1
    split at h1
    · assumption
    · cases h1
  have hb : X.env.blockKind = .function := by
    unfold Env.blockKind
    rw [hs, hk]
    rfl
  have k1 : X.env.kindOf n = some .local := by
    unfold Env.kindOf
    rw [hs]
    exact h2
  have k2 : X.env.kindOf m = some .local := by
    unfold Env.kindOf
    rw [hs]
    exact h3
  have e1 : ([n, m] : List Str).eraseDups = [n, m] := by
    simp [List.eraseDups_cons, h5.symm]
  unfold swappedStores
  simp only [hb, k1, k2, h4, h8, h9, e1, List.filterMap_cons, List.filterMap_nil, List.head?_cons, Option.map_some, Option.getD_some, Expr.pos, pure_bind]
  simp [h5]
  rw [if_neg (by
    rintro (h | h)
    · rw [nostar h] at h6
      cases h6
    · rw [nostar h] at h7
      cases h7), e1]
  rfl
section
variable {X : Cx} {k : Nat} {e a b c : Expr} {es : List Expr} {env : Nv} {H : Hp} {D : Ends} {d x y : PyData} {ds ys : List PyData} {pos p : Pos} {sc : Scope} {rest : List Stmt}
/-- x, y = two new lists -/
theorem go_parL {i j : Nat} {n m : Str} {px py pt : Pos} {kt k2 : Nat} {pt2 : Pos} {env1 : Addr → Nv} {env2 : Addr → Addr → Nv} (A : Hs X k) (hs : X.env.scope = sc) (ha : EvL X a env H ds) (hb : EvL X b env H ys) (h1 : ∀ l, Put env i n (.v (.ref l)) (env1 l)) (h2 : ∀ l l2, Put (env1 l) j m (.v (.ref l2)) (env2 l l2)) (hij : i ≠ j)
    (sw : swB2 sc n m px py a b = true) (v1 : visB sc n = true) (v2 : visB sc m = true)
    (q : ∀ l l2 H1, H l = none → H l2 = none → Ex H H1 → Lst H1 l ds → Lst H1 l2 ys → Go X rest (env2 l l2) H1 D) :
    Go X (.Assign [.Tuple [.Name n px, .Name m py] kt pt] (.Tuple [a, b] k2 pt2) pos :: rest) env H D := ⟨fun σ H1 e0 ok => by
  have hw := sw_of2 (kt := kt) (pt := pt) (k2 := k2) (pt2 := pt2) hs sw
  have sw' := sw
  unfold swB2 at sw'
  simp only [Bool.and_eq_true, Bool.not_eq_true', decide_eq_true_eq] at sw'
  obtain ⟨⟨⟨⟨⟨⟨⟨⟨_, l1⟩, l2⟩, _⟩, _⟩, hp1⟩, hp2⟩, _⟩, _⟩ := sw'
  subst hs
  have nm := (h1 0).name
  have nm2 := (h2 0 0).name
  refine ⟨_, pss_cons (ps_par A.calm A.nd (by rw [ok.names]; exact nm.1) (by rw [ok.names, ← nm.2]; exact nm2.1) hij l1 l2 (pa_cons pe_w (pa_cons pe_w pa_nil (star_of hp2)) (star_of hp1)) hw) pb_w, ha.run σ H1 e0 ok _ fun l H2 n2 e2 r2 => hb.run σ H2 (e0.trans e2) (ok.mono e2.t) _ fun m H3 n3 e3 r3 => ?_⟩
  exact ⟨_, _, rfl, (q l m H3 (e0.back n2) ((e0.trans e2).back n3) ((e0.trans e2).trans e3) (r2.ex e3) r3).run _ H3 (Ex.refl _) (((ok.mono (e2.trans e3).t).put (h1 l) rfl (visN v1).vis).put (h2 l m) rfl (visN v2).vis)⟩⟩
/-- x, y = two data -/
theorem go_par2 {i j : Nat} {n m : Str} {px py pt : Pos} {kt k2 : Nat} {pt2 : Pos} {env1 env2 : Nv} (A : Hs X k) (hs : X.env.scope = sc) (ha : EvD X a env H x) (hb : EvD X b env H y) (h1 : Put env i n (.d x) env1) (h2 : Put env1 j m (.d y) env2) (hij : i ≠ j)
    (sw : swB2 sc n m px py a b = true) (v1 : visB sc n = true) (v2 : visB sc m = true) (q : Go X rest env2 H D) :
    Go X (.Assign [.Tuple [.Name n px, .Name m py] kt pt] (.Tuple [a, b] k2 pt2) pos :: rest) env H D := by
  have sw' := sw
  unfold swB2 at sw'
  simp only [Bool.and_eq_true, Bool.not_eq_true', decide_eq_true_eq] at sw'
  obtain ⟨⟨⟨⟨⟨⟨⟨⟨_, l1⟩, l2⟩, _⟩, _⟩, hp1⟩, hp2⟩, _⟩, _⟩ := sw'
  exact go_par A hs ha hb h1 h2 hij v1 v2 l1 l2 q (sw_of2 hs sw) hp1 hp2
end
end WK
/-! WKApp -/
set_option Elab.async false
set_option linter.all false
set_option maxRecDepth 100000
set_option maxHeartbeats 1000000
/-! lists that grow: append, extend. -/
namespace WK
open PySem PySem.Spec PyProof.Rows L2
/-- all but what stands at l stays -/
def ExL (l : Addr) (H H' : Hp) : Prop := ∀ b o, b ≠ l → H b = some o → H' b = some o
theorem Ex.l {H H' : Hp} {l : Addr} (e : Ex H H') : ExL l H H' := fun b o _ h => e b o h
theorem ExL.trans {H H1 H2 : Hp} {l : Addr} (a : ExL l H H1) (b : ExL l H1 H2) : ExL l H H2 := fun x o n h => b x o n (a x o n h)
theorem ExL.t {H H' : Hp} {l : Addr} (a : ExL l H H') (h : ∀ xs, H l ≠ some (.tup xs)) : TLe H H' := fun b xs e => a b _ (fun z => h xs (by rw [← z]; exact e)) e
theorem ExL.ex {H H' : Hp} {l : Addr} (a : ExL l H H') (h : H l = none) : Ex H H' := fun b o e => a b o (ne_of_none e h) e
theorem Lst.not {H : Hp} {l : Addr} {ds : List PyData} (h : Lst H l ds) (xs : List V) : H l ≠ some (.tup xs) := fun z => by
  obtain ⟨vs, h1, _⟩ := h
  rw [h1] at z
  cases z
/-- another list -/
theorem Lst.exl {H H' : Hp} {a l : Addr} {ds : List PyData} (h : Lst H a ds) (e : ExL l H H') (n : a ≠ l) (ht : ∀ xs, H l ≠ some (.tup xs)) : Lst H' a ds := by
  obtain ⟨vs, h1, h2⟩ := h
  exact ⟨vs, e a _ n h1, h2.mono (e.t ht)⟩
section
variable {X : Cx} {k : Nat} {e a b c nm : Expr} {env : Nv} {H : Hp} {D : Ends} {d : PyData} {ds ys : List PyData} {pos p ap cp : Pos} {l : Addr} {rest : List Stmt}
theorem go_app (hv : EvV X nm env H (.ref l)) (hl : Lst H l ds) (hd : EvD X e env H d) (hn : ds.length ≤ 100000) (q : ∀ H', ExL l H H' → Lst H' l (ds ++ [d]) → Go X rest env H' D) (hp : plainE e = true := by rfl)
    (hbase : attributeBase nm "append" X.env (eval nm X.env) = eval nm X.env := by rfl) (hline : (ap.endLine == cp.line) = true := by rfl)
    (hs : swapsWith (.Call (.Attribute nm "append" ap) [e] [] cp) none pos.line X.env = pure false := by rfl) :
    Go X (.Expr (.Call (.Attribute nm "append" ap) [e] [] cp) pos :: rest) env H D := ⟨fun σ H1 e0 ok => by
  refine ⟨_, pss_cons (ps_expr (pe_bm PySem.F.plainAttrs_list PySem.F.slot_list_append PySem.F.type_list_append mt_append pe_w (pa_cons pe_w pa_nil (star_of hp)) hbase (by cases e <;> first
    | rfl
    | cases hp) hline (star_of hp) (plain_of rfl)) hs) pb_w, hv.run σ H1 e0 ok _ fun H2 e2 => ?_⟩
  obtain ⟨v0, h0, r0⟩ := hl.ex (e0.trans e2)
  refine ⟨.inl ⟨rfl, v0, SqL.of h0⟩, hd.run σ H2 (e0.trans e2) (ok.mono e2.t) _ fun v H3 e3 r3 => ?_⟩
  have hl3 := (hl.ex (e0.trans e2)).ex e3
  obtain ⟨v1, h1, r1⟩ := id hl3
  have t : TLe H3 (upd H3 l (.lst (v1 ++ [v]))) := TLe.upd hl3.not
  refine ⟨l, v1, v, rfl, rfl, h1, by rw [r1.len]; exact Nat.lt_of_le_of_lt hn (by decide), ?_⟩
  refine (q _ (fun b o hb z => ?_) ⟨_, upd_same, (r1.snoc r3).mono t⟩).run σ _ (Ex.refl _) (((ok.mono e2.t).mono e3.t).mono t)
  rw [upd_ne hb]
  exact ((e0.trans e2).trans e3) _ _ z⟩
theorem go_ext (hv : EvV X nm env H (.ref l)) (hl : Lst H l ds) (hd : EvL X e env H ys) (hn : ds.length + ys.length ≤ 100000) (q : ∀ H', ExL l H H' → Lst H' l (ds ++ ys) → Go X rest env H' D) (hp : plainE e = true := by rfl)
    (hbase : attributeBase nm "extend" X.env (eval nm X.env) = eval nm X.env := by rfl) (hline : (ap.endLine == cp.line) = true := by rfl)
    (hs : swapsWith (.Call (.Attribute nm "extend" ap) [e] [] cp) none pos.line X.env = pure false := by rfl) :
    Go X (.Expr (.Call (.Attribute nm "extend" ap) [e] [] cp) pos :: rest) env H D := ⟨fun σ H1 e0 ok => by
  refine ⟨_, pss_cons (ps_expr (pe_bm PySem.F.plainAttrs_list PySem.F.slot_list_extend PySem.F.type_list_extend mt_extend pe_w (pa_cons pe_w pa_nil (star_of hp)) hbase (by cases e <;> first
    | rfl
    | cases hp) hline (star_of hp) (plain_of rfl)) hs) pb_w, hv.run σ H1 e0 ok _ fun H2 e2 => ?_⟩
  obtain ⟨v0, h0, r0⟩ := hl.ex (e0.trans e2)
  refine ⟨.inl ⟨rfl, v0, SqL.of h0⟩, hd.run σ H2 (e0.trans e2) (ok.mono e2.t) _ fun m H3 hm e3 r3 => ?_⟩
  have hl3 := (hl.ex (e0.trans e2)).ex e3
  obtain ⟨v1, h1, r1⟩ := id hl3
  obtain ⟨v2, h2, r2⟩ := r3
  have t : TLe H3 (upd H3 l (.lst (v1 ++ v2))) := TLe.upd hl3.not
  refine ⟨l, m, v1, v2, rfl, rfl, h1, h2, by rw [r1.len, r2.len]; exact Nat.le_trans hn (by decide), ?_⟩
  refine (q _ (fun b o hb z => ?_) ⟨_, upd_same, (r1.app r2).mono t⟩).run σ _ (Ex.refl _) (((ok.mono e2.t).mono e3.t).mono t)
  rw [upd_ne hb]
  exact ((e0.trans e2).trans e3) _ _ z⟩
end
section
variable {X : Cx} {k : Nat} {e a b c it tg : Expr} {env : Nv} {H : Hp} {D : Ends} {items : List PyData} {pos : Pos} {rest body : List Stmt} {own : List Addr}
/-- a for, the body's ends by what they ask; H2: the heap when the walk begins, o: the lists that it reads -/
theorem go_forQ (P : Hp → Nat → Nv → Hp → Prop) (A : Hs X k) (hi : EvI X tg it env H items own) (h0 : ∀ H2, Ex H H2 → P H2 0 env H2) (pk : ∀ (H2 : Hp) (o : List Addr), Ex H H2 → (∀ b ∈ o, (H b = none ∨ b ∈ own) ∧ ∃ u, H2 b = some u) → ∀ i nv H', P H2 i nv H' → TLe H2 H' ∧ ∀ b ∈ o, H' b = H2 b)
    (turn : ∀ H2 i d nv H', Ex H H2 → items[i]? = some d → P H2 i nv H' → ∃ w nv2, Tgt tg d nv w nv2 ∧ (∀ q ∈ w, LocN X q.1) ∧ ∀ H3 D', Ex H' H3 → (∀ σ H4 nv3, NvOk X H4 σ nv3 → P H2 (i + 1) nv3 H4 → D'.nx σ H4) → (∀ σ H4 nv3, NvOk X H4 σ nv3 → P H2 (i + 1) nv3 H4 → D'.ct σ H4) → D'.bk = wB X rest D → D'.rt = D.rt → Go X body nv2 H3 D')
    (done : ∀ H2 nv H', Ex H H2 → P H2 items.length nv H' → Go X rest nv H' D) (hs : ∀ x, foldedSetIterable it X.env x = pure x := by intro _; rfl) : Go X (.For tg it body [] pos :: rest) env H D := by
  refine go_for A hi (fun H2 o e2 ho => ⟨P H2, h0 H2 e2, pk H2 o e2 ho, fun i d nv H' hd p => ?_, fun nv H' => done H2 nv H' e2⟩) hs
  obtain ⟨w, nv2, T, hl, g⟩ := turn H2 i d nv H' e2 hd p
  exact ⟨w, nv2, T, hl, fun H3 e3 => g H3 _ e3 (fun σ H4 nv3 ok p3 => ⟨nv3, ok, p3⟩) (fun σ H4 nv3 ok p3 => ⟨nv3, ok, p3⟩) rfl rfl⟩
/-- what holds behind the first statement -/
theorem go_mid {st : Stmt} (M : Nv → Hp → Prop) (h2 : ∀ nv H4, M nv H4 → Go X rest nv H4 D) (h1 : (∀ σ H4 nv, NvOk X H4 σ nv → M nv H4 → wB X rest D σ H4) → Go X (st :: rest) env H D) : Go X (st :: rest) env H D :=
  h1 fun σ H4 nv ok m => (h2 nv H4 m).run σ H4 (Ex.refl _) ok
/-- that grows the list at l only -/
theorem pk_l {l : Addr} {ds : List PyData} {H H2 H' : Hp} {o : List Addr} (hl : Lst H l ds) (e : Ex H H2) (hw : ∀ b ∈ o, (H b = none ∨ b ∈ ([] : List Addr)) ∧ ∃ u, H2 b = some u) (x : ExL l H2 H') : TLe H2 H' ∧ ∀ b ∈ o, H' b = H2 b := by
  refine ⟨x.t (hl.ex e).not, fun b hb => ?_⟩
  obtain ⟨h1, u, hu⟩ := hw b hb
  have hn : b ≠ l := by
    intro z
    rw [z] at h1
    obtain ⟨vs, h2, _⟩ := hl
    rcases h1 with h1 | h1
    · rw [h2] at h1
      cases h1
    · cases h1
  rw [hu]
  exact x b _ hn hu
end
end WK
/-! WKRec -/
set_option Elab.async false
set_option linter.all false
set_option maxRecDepth 100000
set_option maxHeartbeats 1000000
/-! done_by, all_deeds; records.py's entries -/
namespace WK
open PySem PySem.Spec PyProof.Rows L2
theorem mem_enumZ {l : List Int} {d : PyData} (h : d ∈ enumD (zD l)) : ∃ (i : Nat) (x : Int), l[i]? = some x ∧ d = .tuple [.int (i : Int), .int x] := by
  obtain ⟨i, hi⟩ := List.mem_iff_getElem?.mp h
  rw [enumD_get, zD_get] at hi
  cases e : l[i]? with
  | none =>
    rw [e] at hi
    cases hi
  | some x =>
    rw [e] at hi
    exact ⟨i, x, e, (Option.some.inj hi).symm⟩
def doneF (h : Ho) (dd : Deed) : PyData → PyData
  | .tuple [.int i, .int x] => .int (max 0 (x - wearOf h dd i))
  | _ => .none
theorem doneF_map (h : Ho) (dd : Deed) : ∀ (l : List Int) (n : Int), ((enumF n (zD l)).filter fun _ => true).map (doneF h dd) = zD (doneFrom h dd n l)
  | [], _ => rfl
  | x :: l, n => by
    exact congrArg (_ :: ·) (doneF_map h dd l (n + 1))
inductive R_done_by : List PyData → PyData → Prop
  | mk (h : Ho) (hall : Int) (key : List Int) (d : Deed) (ok : HoOk h) (hk : KeyOk h.teeth key) (hd : DeedOk h d) (na : away h hall d = false) : R_done_by [hoD h, standD hall key, deedD d] (standD (hallBehind h hall d) (doneKey h d key))
theorem sc_done_by : FnScope ((["house", "stand", "deed"] : List Str) ++ (["hall", "key", "later", "tooth", "height"] : List Str)) ["house", "stand", "deed"] (defScope (top 77)) := fnScope_by (by decide +kernel)
instance : HasCal "done_by" 3 ["house", "stand", "deed"] (SpD R_done_by) := ⟨fun P w K mg T => by
  refine Cal.pure T (i := 77) (more := (["hall", "key", "later", "tooth", "height"] : List Str)) (List.mem_of_getElem? (i := 35) rfl) (by decide +kernel) sc_done_by (fun _ _ _ _ _ _ us hl => match us, hl with | [_, _, _], _ => rfl) (by decide +kernel) (fun ds r h => by cases h <;> rfl) fun X A hs hf ds r h H D hD => ?_
  cases h with
  | mk h hall key dd ok hk hdd na =>
    simp only [nvOf, unM]
    refine go_unp A (ed_var (.next (.here)) hs (by decide +kernel)) (.tup (.cons (.name (.next (.next (.next (.here))))) (.cons (.name (.next (.next (.next (.next (.here)))))) .nil))) (fun q hq => locN hf hs (by simp at hq; rcases hq with rfl | rfl <;> decide +kernel)) ?_
    refine go_set A ((ed_tupL A hs (EvL.r (el_lc (N := ["house", "stand", "deed", "hall", "key", "later", "tooth", "height"]) (own := [("tooth", 6), ("height", 7)]) (fun _ => true) (doneF h dd) A hs (ei_enum A hs (by decide +kernel) (ed_var (.next (.next (.next (.next (.here))))) hs (by decide +kernel))) (by have := hk.1; have := ok.teeth.2; rw [enumD_len, zD_len]; omega) rfl (by decide +kernel) (.keep (by decide +kernel) (by decide) (.drop (.keep (by decide +kernel) (by decide) (.drop (.drop (.drop (.drop (.drop .nil)))))))) (fun d hd => by
      obtain ⟨i, x, hx, rfl⟩ := mem_enumZ hd
      have hi := (List.getElem?_eq_some_iff.mp hx).1
      have htt : 0 ≤ (i : Int) ∧ (i : Int) < h.teeth := by have := hk.1; omega
      exact ⟨_, (.tup (.cons (.name (.next (.next (.next (.next (.next (.next (.here)))))))) (.cons (.name (.next (.next (.next (.next (.next (.next (.next (.here))))))))) .nil))), fun X A hs => ⟨ts_nil, fun h_1 => (ed_max A hs ed_int (ed_sub (ed_var (.next (.next (.next (.next (.next (.next (.next (.here)))))))) hs (by decide +kernel)) (ed_call A hs (ea_cons (ed_var .here hs (by decide +kernel)) (ea_cons (ed_var (.next (.next (.here))) hs (by decide +kernel)) (ea_cons (ed_var (.next (.next (.next (.next (.next (.next (.here))))))) hs (by decide +kernel)) ea_nil))) (by constructor <;> first | assumption | rfl | omega))))⟩⟩))))) (.next (.next (.next (.next (.next (.here)))))) (locN hf hs (by decide +kernel)) ?_
    exact go_outX (ed_tup (ea_cons (ed_call A hs (ea_cons (ed_var .here hs (by decide +kernel)) (ea_cons (ed_var (.next (.next (.next (.here)))) hs (by decide +kernel)) (ea_cons (ed_var (.next (.next (.here))) hs (by decide +kernel)) ea_nil))) (by constructor <;> first | assumption | rfl | omega)) (ea_cons (ed_var (.next (.next (.next (.next (.next (.here)))))) hs (by decide +kernel)) ea_nil))) (by
      show PyData.tuple [.int (hallBehind h hall dd), .tuple (((enumF 0 (zD key)).filter fun _ => true).map (doneF h dd))] = _
      rw [doneF_map]
      rfl) hD (Ex.refl _)⟩
def fileF : PyData → PyData := fun d => .tuple [.str "file", d]
def goF : PyData → PyData := fun d => .tuple [.str "go", d]
def liftF : PyData → PyData := fun d => .tuple [.str "lift", d]
def allDeeds (h : Ho) : List Deed := ((List.range h.teeth.toNat).map fun (t : Nat) => Deed.file t) ++ ((List.range h.wears.length).map fun (t : Nat) => Deed.go t) ++ ((List.range h.teeth.toNat).map fun (t : Nat) => Deed.lift t)
theorem filt_all {α : Type} (l : List α) : (l.filter fun _ => true) = l := List.filter_eq_self.mpr fun _ _ => rfl
theorem allDeeds_map (h : Ho) (n : Int) (hn : n = h.wears.length) : (((rangeD h.teeth).filter fun _ => true).map fileF ++ ((rangeD n).filter fun _ => true).map goF) ++ ((rangeD h.teeth).filter fun _ => true).map liftF = (allDeeds h).map deedD := by
  subst hn
  unfold allDeeds rangeD
  simp only [filt_all, List.map_append, List.map_map, Int.toNat_natCast]
  rfl
inductive R_all_deeds : List PyData → List PyData → Prop
  | mk (h : Ho) (ok : HoOk h) : R_all_deeds [hoD h] ((allDeeds h).map deedD)
theorem rangeD_len (n : Int) : (rangeD n).length = n.toNat := by unfold rangeD; simp
theorem filt_len (l : List PyData) (t : PyData → Bool) (f : PyData → PyData) : ((l.filter t).map f).length ≤ l.length := by
  rw [List.length_map]
  exact List.length_filter_le _ _
theorem sc_all_deeds : FnScope ((["house"] : List Str) ++ (["teeth", "letters", "found", "tooth", "letter"] : List Str)) ["house"] (defScope (top 69)) := fnScope_by (by decide +kernel)
instance : HasCal "all_deeds" 1 ["house"] (SpL R_all_deeds) := ⟨fun P w K mg T => by
  refine Cal.pureL T (i := 69) (more := (["teeth", "letters", "found", "tooth", "letter"] : List Str)) (List.mem_of_getElem? (i := 27) rfl) (by decide +kernel) sc_all_deeds (fun _ _ _ _ _ _ us hl => match us, hl with | [_], _ => rfl) (by decide +kernel) (fun ds r h => by cases h <;> rfl) fun X A hs hf ds r h H D hD => ?_
  cases h with
  | mk h ok =>
    have t1 := ok.teeth
    have t2 := ok.wearsN
    have wl : (h.wears.map kD).length ≤ 6 := by rw [List.length_map]; exact t2.2
    have L1 := filt_len (rangeD h.teeth) (fun _ => true) fileF
    have L2 := filt_len (rangeD (h.wears.map kD).length) (fun _ => true) goF
    have L3 := filt_len (rangeD h.teeth) (fun _ => true) liftF
    rw [rangeD_len] at L1 L2 L3
    simp only [nvOf, unM]
    refine go_parL A hs (el_range A hs (ed_ix (ed_var .here hs (by decide +kernel)) ed_int (by first | rfl | assumption | decide +kernel)) (by first | omega | decide)) (el_range A hs (ed_len A hs (ed_ix (ed_var .here hs (by decide +kernel)) ed_int (by first | rfl | assumption | decide +kernel))) (by first | omega | decide)) (fun _ => (.next (.here))) (fun _ _ => (.next (.next (.here)))) (by decide) (by decide +kernel) (by decide +kernel) (by decide +kernel) fun a1 a2 H1 n1 n2 e1 ht1 ht2 => ?_
    refine go_setL A (el_cat (EvL.r (el_lc (N := ["house", "teeth", "letters", "found", "tooth", "letter"]) (own := [("tooth", 4)]) (fun _ => true) fileF A hs (ei_lst (ev_var (.next (.here)) hs (by decide +kernel)) ht1) (by rw [rangeD_len]; omega) rfl (by decide +kernel) (.drop (.drop (.drop (.drop (.drop (.drop .nil)))))) (fun d hd => by
      obtain _ := hd
      exact ⟨_, (.name (.next (.next (.next (.next (.here)))))), fun X A hs => ⟨ts_nil, fun h_1 => (ed_tup (ea_cons (ed_gstr (i := "file") A hs (by decide +kernel) (by decide +kernel)) (ea_cons (ed_var (.next (.next (.next (.next (.here))))) hs (by decide +kernel)) ea_nil)))⟩⟩))) (EvL.r (el_lc (N := ["house", "teeth", "letters", "found", "tooth", "letter"]) (own := [("letter", 5)]) (fun _ => true) goF A hs (ei_lst (ev_var (.next (.next (.here))) hs (by decide +kernel)) ht2) (by rw [rangeD_len]; omega) rfl (by decide +kernel) (.drop (.drop (.drop (.drop (.drop (.drop .nil)))))) (fun d hd => by
      obtain _ := hd
      exact ⟨_, (.name (.next (.next (.next (.next (.next (.here))))))), fun X A hs => ⟨ts_nil, fun h_2 => (ed_tup (ea_cons (ed_gstr (i := "go") A hs (by decide +kernel) (by decide +kernel)) (ea_cons (ed_var (.next (.next (.next (.next (.next (.here)))))) hs (by decide +kernel)) ea_nil)))⟩⟩))) (by omega)) (fun _ => (.next (.next (.next (.here))))) (locN hf hs (by decide +kernel)) fun a3 H2 n3 e2 hfo => ?_
    have ht1 := ht1.ex e2
    refine go_retL (el_cat (EvV.r (ev_var (.next (.next (.next (.here)))) hs (by decide +kernel)) hfo) (EvL.r (el_lc (N := ["house", "teeth", "letters", "found", "tooth", "letter"]) (own := [("tooth", 4)]) (fun _ => true) liftF A hs (ei_lst (ev_var (.next (.here)) hs (by decide +kernel)) ht1) (by rw [rangeD_len]; omega) rfl (by decide +kernel) (.drop (.drop (.drop (.drop (.drop (.drop .nil)))))) (fun d hd => by
      obtain _ := hd
      exact ⟨_, (.name (.next (.next (.next (.next (.here)))))), fun X A hs => ⟨ts_nil, fun h_3 => (ed_tup (ea_cons (ed_gstr (i := "lift") A hs (by decide +kernel) (by decide +kernel)) (ea_cons (ed_var (.next (.next (.next (.next (.here))))) hs (by decide +kernel)) ea_nil)))⟩⟩))) (by rw [List.length_append]; omega)) fun pp H3 n4 e3 hl => hD pp H3 (e1.back (e2.back n4)) ((e1.trans e2).trans e3) (by rw [allDeeds_map h _ (by rw [List.length_map])] at hl; exact hl)⟩
inductive R_is_shut : List PyData → PyData → Prop
  | shut (h : Ho) (l : Int) (h1 : 0 ≤ l) (h2 : l ≤ (h.wears.length : Int) - 1) : R_is_shut [hoD h, entryD (.shut l)] (.bool true)
  | seen (h : Ho) (t lo hi : Int) : R_is_shut [hoD h, entryD (.seen t lo hi)] (.bool false)
theorem shut_shut : PyData.eqv (.str "shut") (.str "shut") = true := by decide +kernel
theorem seen_seen : PyData.eqv (.str "seen") (.str "seen") = true := by decide +kernel
theorem sc_is_shut : FnScope ((["house", "thing"] : List Str) ++ ([] : List Str)) ["house", "thing"] (defScope (top 82)) := fnScope_by (by decide +kernel)
instance : HasCal "is_shut" 3 ["house", "thing"] (SpD R_is_shut) := ⟨fun P w K mg T => by
  refine Cal.pure T (i := 82) (more := ([] : List Str)) (List.mem_of_getElem? (i := 36) rfl) (by decide +kernel) sc_is_shut (fun _ _ _ _ _ _ us hl => match us, hl with | [_, _], _ => rfl) (by decide +kernel) (fun ds r h => by cases h <;> rfl) fun X A hs hf ds r h H D hD => ?_
  cases h with
  | shut h l h1 h2 =>
    simp only [nvOf, unM]
    refine go_when ((et_bool (ew_or (et_not (et_val (ed_call A hs (ea_cons (ed_var (.next (.here)) hs (by decide +kernel)) (ea_cons ed_int (ea_cons ed_int ea_nil))) (by constructor <;> first | assumption | rfl | omega)))) (fun h_1 => (ew_or (et_not (et_val (ed_isStr A hs (ed_ix (ed_var (.next (.here)) hs (by decide +kernel)) ed_int (by first | rfl | assumption | decide +kernel))))) (fun h_2 => (ew_or1 (et_ne A (ed_ix (ed_var (.next (.here)) hs (by decide +kernel)) ed_int (by first | rfl | assumption | decide +kernel)) (ed_gstr (i := "shut") A hs (by decide +kernel) (by decide +kernel)) (by first | rfl | assumption | decide +kernel) (by first | rfl | assumption | decide +kernel))))))))) (fun ht => ?_) fun ht => ?_
    · rw [shut_shut] at ht
      cases ht
    · exact go_outX (ed_call A hs (ea_cons (ed_ix (ed_var (.next (.here)) hs (by decide +kernel)) ed_int (by first | rfl | assumption | decide +kernel)) (ea_cons ed_int (ea_cons (ed_sub ((ed_len A hs (ed_ix (ed_var .here hs (by decide +kernel)) ed_int (by first | rfl | assumption | decide +kernel))).is (x := .int (h.wears.length : Int)) (by rw [List.length_map])) ed_int) ea_nil))) (by constructor <;> first | assumption | rfl | omega)) (by rfl) hD (Ex.refl _)
  | seen h t lo hi =>
    simp only [nvOf, unM]
    refine go_when ((et_bool (ew_or (et_not (et_val (ed_call A hs (ea_cons (ed_var (.next (.here)) hs (by decide +kernel)) (ea_cons ed_int (ea_cons ed_int ea_nil))) (by constructor <;> first | assumption | rfl | omega)))) (fun h_3 => (ew_or (et_not (et_val (ed_isStr A hs (ed_ix (ed_var (.next (.here)) hs (by decide +kernel)) ed_int (by first | rfl | assumption | decide +kernel))))) (fun h_4 => (ew_or1 (et_ne A (ed_ix (ed_var (.next (.here)) hs (by decide +kernel)) ed_int (by first | rfl | assumption | decide +kernel)) (ed_gstr (i := "shut") A hs (by decide +kernel) (by decide +kernel)) (by first | rfl | assumption | decide +kernel) (by first | rfl | assumption | decide +kernel))))))))) (fun ht => ?_) fun ht => ?_
    · exact go_outX ed_bl (by rfl) hD (Ex.refl _)
    · cases ht⟩
inductive R_is_seen : List PyData → PyData → Prop
  | mk (h : Ho) (t lo hi : Int) (ok : EntryOk h (.seen t lo hi)) : R_is_seen [hoD h, entryD (.seen t lo hi)] (.bool true)
theorem cut_from2 (ds : List PyData) : cutD ds (some 2) none = ds.drop 2 := cut_from ds 2
theorem sc_is_seen : FnScope ((["house", "thing"] : List Str) ++ ([] : List Str)) ["house", "thing"] (defScope (top 83)) := fnScope_by (by decide +kernel)
instance : HasCal "is_seen" 5 ["house", "thing"] (SpD R_is_seen) := ⟨fun P w K mg T => by
  refine Cal.pure T (i := 83) (more := ([] : List Str)) (List.mem_of_getElem? (i := 37) rfl) (by decide +kernel) sc_is_seen (fun _ _ _ _ _ _ us hl => match us, hl with | [_, _], _ => rfl) (by decide +kernel) (fun ds r h => by cases h <;> rfl) fun X A hs hf ds r h H D hD => ?_
  cases h with
  | mk h t lo hi ok =>
    obtain ⟨⟨h1, h2⟩, hg⟩ := ok
    simp only [nvOf, unM]
    refine go_when ((et_bool (ew_or (et_not (et_val (ed_call A hs (ea_cons (ed_var (.next (.here)) hs (by decide +kernel)) (ea_cons ed_int (ea_cons ed_int ea_nil))) (by constructor <;> first | assumption | rfl | omega)))) (fun h_1 => (ew_or (et_not (et_val (ed_isStr A hs (ed_ix (ed_var (.next (.here)) hs (by decide +kernel)) ed_int (by first | rfl | assumption | decide +kernel))))) (fun h_2 => (ew_or1 (et_ne A (ed_ix (ed_var (.next (.here)) hs (by decide +kernel)) ed_int (by first | rfl | assumption | decide +kernel)) (ed_gstr (i := "seen") A hs (by decide +kernel) (by decide +kernel)) (by first | rfl | assumption | decide +kernel) (by first | rfl | assumption | decide +kernel))))))))) (fun ht => ?_) fun ht => ?_
    · rw [seen_seen] at ht
      cases ht
    · exact go_outX (ed_and (ed_call A hs (ea_cons (ed_ix (ed_var (.next (.here)) hs (by decide +kernel)) ed_int (by first | rfl | assumption | decide +kernel)) (ea_cons ed_int (ea_cons (ed_sub (ed_ix (ed_var .here hs (by decide +kernel)) ed_int (by first | rfl | assumption | decide +kernel)) ed_int) ea_nil))) (by constructor <;> first | assumption | rfl | omega)) (fun h_3 => (ed_one (ed_call A hs (ea_cons ((ed_slice (ed_var (.next (.here)) hs (by decide +kernel)) (eo_some ed_int) eo_none).is (x := .tuple [.int lo, .int hi]) (by rw [cut_from2]; rfl)) ea_nil) (by constructor <;> first | assumption | rfl | omega))))) (by rfl) hD (Ex.refl _)⟩
/-- the entry may stand at this hall -/
def canStand (h : Ho) (hall : Int) : Entry → Bool
  | .deed d => !away h hall d
  | .shut l => !isN (optN (doorAt h hall l))
  | .seen _ _ _ => true
inductive R_is_entry : List PyData → PyData → Prop
  | mk (h : Ho) (hall : Int) (e : Entry) (he : EntryOk h e) (hc : canStand h hall e = true) : R_is_entry [hoD h, .int hall, entryD e] (.bool true)
theorem sc_is_entry : FnScope ((["house", "hall", "thing"] : List Str) ++ ([] : List Str)) ["house", "hall", "thing"] (defScope (top 84)) := fnScope_by (by decide +kernel)
instance : HasCal "is_entry" 6 ["house", "hall", "thing"] (SpD R_is_entry) := ⟨fun P w K mg T => by
  refine Cal.pure T (i := 84) (more := ([] : List Str)) (List.mem_of_getElem? (i := 38) rfl) (by decide +kernel) sc_is_entry (fun _ _ _ _ _ _ us hl => match us, hl with | [_, _, _], _ => rfl) (by decide +kernel) (fun ds r h => by cases h <;> rfl) fun X A hs hf ds r h H D hD => ?_
  cases h with
  | mk h hall e he hc =>
    cases e with
    | deed d =>
      simp only [nvOf, unM]
      refine go_when (et_val (ed_call A hs (ea_cons (ed_var .here hs (by decide +kernel)) (ea_cons (ed_var (.next (.next (.here))) hs (by decide +kernel)) ea_nil)) (by constructor <;> first | assumption | rfl | omega))) (fun ht => ?_) fun ht => by cases ht
      exact go_outX (ed_not (ed_call A hs (ea_cons (ed_var .here hs (by decide +kernel)) (ea_cons (ed_var (.next .here) hs (by decide +kernel)) (ea_cons (ed_var (.next (.next .here)) hs (by decide +kernel)) ea_nil))) (R_is_away.mk h hall d))) (by show PyData.bool (!away h hall d) = _; rw [show (!away h hall d) = true from hc]) hD (Ex.refl _)
    | shut l =>
      have h12 := he
      obtain ⟨h1, h2⟩ := h12
      simp only [nvOf, unM]
      refine go_when (et_val (ed_call A hs (ea_cons (ed_var .here hs (by decide +kernel)) (ea_cons (ed_var (.next (.next (.here))) hs (by decide +kernel)) ea_nil)) (by constructor <;> first | assumption | rfl | omega))) (fun ht => by cases ht) fun ht => ?_
      refine go_when (et_val (ed_call A hs (ea_cons (ed_var .here hs (by decide +kernel)) (ea_cons (ed_var (.next (.next (.here))) hs (by decide +kernel)) ea_nil)) (by constructor <;> first | assumption | rfl | omega))) (fun ht => ?_) fun ht => by cases ht
      exact go_outX (ed_isnt (ed_call A hs (ea_cons (ed_var .here hs (by decide +kernel)) (ea_cons (ed_var (.next (.here)) hs (by decide +kernel)) (ea_cons (ed_ix (ed_var (.next (.next (.here))) hs (by decide +kernel)) ed_int (by first | rfl | assumption | decide +kernel)) ea_nil))) (by constructor <;> first | assumption | rfl | omega)) ed_non) (by show PyData.bool (!isN (optN (doorAt h hall l))) = _; rw [show (!isN (optN (doorAt h hall l))) = true from hc]) hD (Ex.refl _)
    | seen t lo hi =>
      simp only [nvOf, unM]
      refine go_when (et_val (ed_call A hs (ea_cons (ed_var .here hs (by decide +kernel)) (ea_cons (ed_var (.next (.next (.here))) hs (by decide +kernel)) ea_nil)) (by constructor <;> first | assumption | rfl | omega))) (fun ht => by cases ht) fun ht => ?_
      refine go_when (et_val (ed_call A hs (ea_cons (ed_var .here hs (by decide +kernel)) (ea_cons (ed_var (.next (.next (.here))) hs (by decide +kernel)) ea_nil)) (by constructor <;> first | assumption | rfl | omega))) (fun ht => by cases ht) fun ht => ?_
      exact go_outX (ed_call A hs (ea_cons (ed_var .here hs (by decide +kernel)) (ea_cons (ed_var (.next (.next (.here))) hs (by decide +kernel)) ea_nil)) (by constructor <;> first | assumption | rfl | omega)) (by rfl) hD (Ex.refl _)⟩
end WK
/-! WKAgn -/
set_option Elab.async false
set_option linter.all false
set_option maxRecDepth 100000
set_option maxHeartbeats 1000000
/-! need_record, against; rows.py -/
namespace WK
open PySem PySem.Spec PyProof.Rows L2
def hallAfter (h : Ho) (hall : Int) : Entry → Int
  | .deed d => hallBehind h hall d
  | _ => hall
/-- a record of the house from this hall on -/
def RecOk (h : Ho) : Int → List Entry → Prop
  | _, [] => True
  | hall, e :: r => EntryOk h e ∧ canStand h hall e = true ∧ RecOk h (hallAfter h hall e) r
theorem drop_of {α : Type} {l : List α} {i : Nat} {x : α} (h : l[i]? = some x) : l.drop i = x :: l.drop (i + 1) := by
  have hi := (List.getElem?_eq_some_iff.mp h).1
  rw [List.drop_eq_getElem_cons hi]
  congr 1
  exact (List.getElem?_eq_some_iff.mp h).2
def recD (r : List Entry) : PyData := .tuple (r.map entryD)
inductive R_need_record : List PyData → PyData → Prop
  | mk (h : Ho) (hall : Int) (r : List Entry) (ok : HoOk h) (hi : HallOk h hall) (hr : RecOk h hall r) (hl : r.length ≤ 12) : R_need_record [hoD h, .int hall, recD r] .none
theorem sc_need_record : FnScope ((["house", "hall", "thing"] : List Str) ++ (["entry"] : List Str)) ["house", "hall", "thing"] (defScope (top 85)) := fnScope_by (by decide +kernel)
instance : HasCal "need_record" 11 ["house", "hall", "thing"] (SpD R_need_record) := ⟨fun P w K mg T => by
  refine Cal.pure T (i := 85) (more := (["entry"] : List Str)) (List.mem_of_getElem? (i := 39) rfl) (by decide +kernel) sc_need_record (fun _ _ _ _ _ _ us hl => match us, hl with | [_, _, _], _ => rfl) (by decide +kernel) (fun ds r h => by cases h <;> rfl) fun X A hs hf ds r h H D hD => ?_
  cases h with
  | mk h hall r ok hi hr hl =>
    simp only [nvOf, unM]
    refine go_expr (ed_call A hs (ea_cons (ed_var .here hs (by decide +kernel)) (ea_cons (ed_var (.next (.here)) hs (by decide +kernel)) ea_nil)) (by constructor <;> first | assumption | rfl | omega)) ?_
    refine go_when (et_not (et_val (ed_call A hs (ea_cons (ed_var (.next (.next (.here))) hs (by decide +kernel)) (ea_cons ed_int (ea_cons (ed_gint (i := 12) A hs (by decide +kernel) (by decide +kernel)) ea_nil))) (by constructor <;> first | assumption | rfl | omega)))) (fun ht => by simp at ht; omega) fun ht => ?_
    refine go_forP (fun i nv => ∃ s1 hall', nv = ([("house", .d (hoD h)), ("hall", .d (.int hall')), ("thing", .d (recD r)), ("entry", s1)] : Nv) ∧ RecOk h hall' (r.drop i)) A (ei_tup (ed_var (.next (.next (.here))) hs (by decide +kernel)))
      ⟨_, _, rfl, hr⟩ ?_ ?_
    · rintro i d nv H' hd ⟨s1, hall', rfl, hb⟩ e1
      rw [List.getElem?_map] at hd
      cases hx : r[i]? with
      | none =>
        rw [hx] at hd
        cases hd
      | some e =>
        rw [hx] at hd
        obtain rfl : entryD e = d := by simpa using hd
        rw [drop_of hx] at hb
        obtain ⟨he, hc, hb⟩ := hb
        refine ⟨_, _, .name (.next (.next (.next (.here)))), fun q hq => locN hf hs (by simp at hq; rcases hq with rfl; decide +kernel), ?_⟩
        refine go_when (et_not (et_val (ed_call A hs (ea_cons (ed_var .here hs (by decide +kernel)) (ea_cons (ed_var (.next (.here)) hs (by decide +kernel)) (ea_cons (ed_var (.next (.next (.next (.here)))) hs (by decide +kernel)) ea_nil))) (by constructor <;> first | assumption | rfl | omega)))) (fun ht => by cases ht) fun ht => ?_
        refine go_when (et_val (ed_call A hs (ea_cons (ed_var .here hs (by decide +kernel)) (ea_cons (ed_var (.next (.next (.next (.here)))) hs (by decide +kernel)) ea_nil)) (by constructor <;> first | assumption | rfl | omega))) (fun ht => ?_) fun ht => ?_
        · cases e with
          | deed d =>
            have na : away h hall' d = false := by
              have hc : (!away h hall' d) = true := hc
              simpa using hc
            have hb : RecOk h (hallBehind h hall' d) (r.drop (i + 1)) := hb
            exact go_set A (ed_call A hs (ea_cons (ed_var .here hs (by decide +kernel)) (ea_cons (ed_var (.next (.here)) hs (by decide +kernel)) (ea_cons (ed_var (.next (.next (.next (.here)))) hs (by decide +kernel)) ea_nil))) (R_hall_behind.mk h hall' d na)) (.next (.here)) (locN hf hs (by decide +kernel)) (go_nil fun σ H1 e2 ok => ⟨_, pss_nil, e2, _, ok, _, _, rfl, hb⟩)
          | shut l => cases ht
          | seen t lo hi => cases ht
        · refine go_nil fun σ H1 e2 ok => ⟨e2, _, ok, _, _, rfl, ?_⟩
          cases e with
          | deed d => cases ht
          | shut l => exact hb
          | seen t lo hi => exact hb
    · rintro nv H' e1 ⟨s1, hall', rfl, hb⟩
      exact go_nil fun σ H1 e2 _ => hD.nx rfl σ H1 (e1.trans e2)⟩
def inGap (key : List Int) (t lo hi : Int) : Bool := decide (lo ≤ (key[t.toNat]?).getD 0) && decide ((key[t.toNat]?).getD 0 ≤ hi)
def good (h : Ho) (hall : Int) (key : List Int) : Entry → Bool
  | .seen t lo hi => inGap key t lo hi
  | .shut l => !isN (bar h hall key (.go l))
  | .deed _ => true
/-- the numbers of what the key doesn't fit, or none -/
def againstFrom (h : Ho) : Int → Int → List Int → List Entry → Option (List Int)
  | _, _, _, [] => some []
  | n, hall, key, .deed d :: r => if isN (bar h hall key d) = true then againstFrom h (n + 1) (hallBehind h hall d) (doneKey h d key) r else none
  | n, hall, key, .seen t lo hi :: r => if good h hall key (.seen t lo hi) = true then againstFrom h (n + 1) hall key r else (againstFrom h (n + 1) hall key r).map (n :: ·)
  | n, hall, key, .shut l :: r => if good h hall key (.shut l) = true then againstFrom h (n + 1) hall key r else (againstFrom h (n + 1) hall key r).map (n :: ·)
def optZ : Option (List Int) → PyData
  | none => .none
  | some l => .tuple (zD l)
theorem bar_away {h : Ho} {hall : Int} {key : List Int} {d : Deed} (hb : isN (bar h hall key d) = true) : away h hall d = false := by
  cases e : away h hall d with
  | false => rfl
  | true =>
    unfold bar at hb
    rw [if_pos e] at hb
    cases hb
theorem doneFrom_len (h : Ho) (d : Deed) : ∀ (l : List Int) (n : Int), (doneFrom h d n l).length = l.length
  | [], _ => rfl
  | _ :: l, n => congrArg Nat.succ (doneFrom_len h d l (n + 1))
theorem wear_ok {h : Ho} (ok : HoOk h) (d : Deed) (t : Int) : 0 ≤ wearOf h d t ∨ d = .lift t := by
  cases d with
  | go l =>
    left
    show 0 ≤ (((h.wears[l.toNat]?).getD [])[t.toNat]?).getD 0
    cases e : h.wears[l.toNat]? with
    | none => simp
    | some w =>
      have hw := ok.wears w (List.mem_of_getElem? e)
      simp only [Option.getD_some]
      cases e2 : w[t.toNat]? with
      | none => simp
      | some x => exact (hw.2 x (List.mem_of_getElem? e2)).1
  | file s =>
    left
    show 0 ≤ if (s == t) = true then (1 : Int) else 0
    split <;> omega
  | lift s =>
    by_cases e : (s == t) = true
    · right
      rw [eq_of_beq e]
    · left
      show 0 ≤ 0 - if (s == t) = true then (1 : Int) else 0
      rw [if_neg e]
      omega
theorem barAt_ok {h : Ho} {hall : Int} {d : Deed} : ∀ {l : List Int} {n : Int}, isN (barAt h hall d n l) = true → ∀ (i : Nat) (x : Int), l[i]? = some x → (gapOf h hall d (n + i)).1 ≤ x ∧ x ≤ (gapOf h hall d (n + i)).2
  | [], _, _, i, x, e => by simp at e
  | y :: l, n, hb, i, x, e => by
    unfold barAt at hb
    split at hb
    · cases hb
    · rename_i h1
      split at hb
      · cases hb
      · rename_i h2
        cases i with
        | zero =>
          have e : y = x := by simpa using e
          subst e
          simp only [Int.natCast_zero, Int.add_zero]
          omega
        | succ i =>
          have := barAt_ok hb i x (by simpa using e)
          have e3 : n + 1 + (i : Int) = n + ((i + 1 : Nat) : Int) := by omega
          rw [e3] at this
          exact this
theorem smith_most {h : Ho} (ok : HoOk h) {hall t : Int} (na : away h hall (.lift t) = false) : 1 ≤ ((smithAt h hall).getD ⟨0, 0, 0⟩).most ∧ ((smithAt h hall).getD ⟨0, 0, 0⟩).most ≤ 6 := by
  have na : isN (optS (smithAt h hall)) = false := na
  cases e : smithAt h hall with
  | none =>
    rw [e] at na
    cases na
  | some s => exact (ok.smiths s (List.mem_of_find?_eq_some e)).most
theorem doneFrom_ok {h : Ho} (ok : HoOk h) {hall : Int} {d : Deed} (na : away h hall d = false) : ∀ {l : List Int} {n : Int}, isN (barAt h hall d n l) = true → (∀ x ∈ l, 0 ≤ x ∧ x ≤ 6) → ∀ x ∈ doneFrom h d n l, 0 ≤ x ∧ x ≤ 6
  | [], _, _, _, x, hx => by cases hx
  | y :: l, n, hb, hk, x, hx => by
    have b0 := barAt_ok hb 0 y rfl
    simp only [Int.natCast_zero, Int.add_zero] at b0
    have hy := hk y List.mem_cons_self
    have hb2 : isN (barAt h hall d (n + 1) l) = true := by
      unfold barAt at hb
      split at hb
      · cases hb
      · split at hb
        · cases hb
        · exact hb
    rcases List.mem_cons.mp hx with e | hx
    · rcases wear_ok ok d n with hw | hw
      · omega
      · subst hw
        have hg : gapOf h hall (.lift n) n = (0, ((smithAt h hall).getD ⟨0, 0, 0⟩).most - 1) := by
          show (if (n == n) = true then _ else _) = _
          rw [if_pos (by simp)]
        rw [hg] at b0
        have hw : wearOf h (.lift n) n = -1 := by
          show 0 - (if (n == n) = true then (1 : Int) else 0) = _
          rw [if_pos (by simp)]
          omega
        have := smith_most ok na
        simp only at b0
        omega
    · exact doneFrom_ok ok na hb2 (fun x hx => hk x (List.mem_cons_of_mem _ hx)) x hx
theorem done_ok {h : Ho} (ok : HoOk h) {hall : Int} {key : List Int} {d : Deed} (hk : KeyOk h.teeth key) (hb : isN (bar h hall key d) = true) : KeyOk h.teeth (doneKey h d key) := by
  have na := bar_away hb
  unfold bar at hb
  rw [if_neg (by rw [na]; decide)] at hb
  exact ⟨by rw [← hk.1]; exact congrArg _ (doneFrom_len h d key 0), doneFrom_ok ok na hb hk.2⟩

theorem key_at {key : List Int} {t : Int} (h0 : 0 ≤ t) (h1 : t < key.length) : atI (zD key) t = some (.int ((key[t.toNat]?).getD 0)) := by
  have hlt : t.toNat < key.length := by omega
  rw [List.getElem?_eq_getElem hlt]
  exact atI_zD h0 (List.getElem?_eq_getElem hlt)
theorem shut_seen : PyData.eqv (.str "shut") (.str "seen") = false := by decide +kernel
theorem go_seen : PyData.eqv (.str "go") (.str "seen") = false := by decide +kernel
theorem file_seen : PyData.eqv (.str "file") (.str "seen") = false := by decide +kernel
theorem lift_seen : PyData.eqv (.str "lift") (.str "seen") = false := by decide +kernel
theorem go_shut : PyData.eqv (.str "go") (.str "shut") = false := by decide +kernel
theorem file_shut : PyData.eqv (.str "file") (.str "shut") = false := by decide +kernel
theorem lift_shut : PyData.eqv (.str "lift") (.str "shut") = false := by decide +kernel
theorem opt_app (o : Option (List Int)) (acc : List Int) (n : Int) : (o.map (n :: ·)).map (acc ++ ·) = o.map ((acc ++ [n]) ++ ·) := by
  cases o <;> simp
def kind1 : Deed → Str
  | .go _ => "go"
  | .file _ => "file"
  | .lift _ => "lift"
def arg1 : Deed → Int
  | .go l => l
  | .file l => l
  | .lift l => l
theorem deedD_eq (d : Deed) : deedD d = .tuple [.str (kind1 d), .int (arg1 d)] := by cases d <;> rfl
theorem shaped_kind (d : Deed) : SeqAt.shaped (.str (kind1 d)) = true := by
  cases d
  · show SeqAt.shaped (.str "go") = true
    decide +kernel
  · show SeqAt.shaped (.str "file") = true
    decide +kernel
  · show SeqAt.shaped (.str "lift") = true
    decide +kernel
theorem kind_seen (d : Deed) : PyData.eqv (.str (kind1 d)) (.str "seen") = false := by
  cases d
  · exact go_seen
  · exact file_seen
  · exact lift_seen
theorem kind_shut (d : Deed) : PyData.eqv (.str (kind1 d)) (.str "shut") = false := by
  cases d
  · exact go_shut
  · exact file_shut
  · exact lift_shut
inductive R_against : List PyData → PyData → Prop
  | mk (h : Ho) (hall : Int) (key : List Int) (r : List Entry) (ok : HoOk h) (hk : KeyOk h.teeth key) (he : ∀ e ∈ r, EntryOk h e) (hl : r.length ≤ 12) : R_against [hoD h, standD hall key, recD r] (optZ (againstFrom h 0 hall key r))
theorem sc_against : FnScope ((["house", "stand", "record"] : List Str) ++ (["found", "number", "entry", "good"] : List Str)) ["house", "stand", "record"] (defScope (top 86)) := fnScope_by (by decide +kernel)
instance : HasCal "against" 4 ["house", "stand", "record"] (SpD R_against) := ⟨fun P w K mg T => by
  refine Cal.pure T (i := 86) (more := (["found", "number", "entry", "good"] : List Str)) (List.mem_of_getElem? (i := 40) rfl) (by decide +kernel) sc_against (fun _ _ _ _ _ _ us hl => match us, hl with | [_, _, _], _ => rfl) (by decide +kernel) (fun ds r h => by cases h <;> rfl) fun X A hs hf ds r h H D hD => ?_
  cases h with
  | mk h hall key r ok hk he hl =>
    simp only [nvOf, unM]
    refine go_setL A (el_lst ea_nil) (fun _ => (.next (.next (.next (.here))))) (locN hf hs (by decide +kernel)) fun a H0 na e0 hfo => ?_
    refine go_forQ (fun H2 i nv H' => ExL a H2 H' ∧ ∃ s1 s2 s3 hall' key' acc, nv = ([("house", .d (hoD h)), ("stand", .d (standD hall' key')), ("record", .d (recD r)), ("found", .v (.ref a)), ("number", s1), ("entry", s2), ("good", s3)] : Nv) ∧ KeyOk h.teeth key' ∧ Lst H' a (zD acc) ∧ acc.length ≤ i ∧
      againstFrom h 0 hall key r = (againstFrom h (i : Int) hall' key' (r.drop i)).map (acc ++ ·)) A (ei_enum A hs (by decide +kernel) (ed_var (.next (.next (.here))) hs (by decide +kernel)))
      (fun H2 e2 => ⟨(Ex.refl H2).l, _, _, _, hall, key, [], rfl, hk, hfo.ex e2, Nat.le_refl _, by simp⟩) (fun H2 o e2 ho i nv H' p => pk_l hfo e2 ho p.1) ?_ ?_
    · rintro H2 i d nv H' e2 hd ⟨xl, s1, s2, s3, hall', key', acc, rfl, hk', hla, hacc, hb⟩
      rw [enumD_get, List.getElem?_map] at hd
      cases hx : r[i]? with
      | none =>
        rw [hx] at hd
        cases hd
      | some e =>
        rw [hx] at hd
        obtain rfl : PyData.tuple [.int (i : Int), entryD e] = d := by simpa using hd
        have hi : i < r.length := (List.getElem?_eq_some_iff.mp hx).1
        have hem := he e (List.mem_of_getElem? hx)
        rw [drop_of hx] at hb
        refine ⟨_, _, .tup (.cons (.name (.next (.next (.next (.next (.here)))))) (.cons (.name (.next (.next (.next (.next (.next (.here))))))) .nil)), fun q hq => locN hf hs (by simp at hq; rcases hq with rfl | rfl <;> decide +kernel), fun H3 D' e3 hnx hct hbk hrt => ?_⟩
        -- behind the branches
        refine go_mid (fun nv H4 => ∃ (g : Bool) (hall2 : Int) (key2 : List Int), nv = ([("house", .d (hoD h)), ("stand", .d (standD hall2 key2)), ("record", .d (recD r)), ("found", .v (.ref a)), ("number", .d (.int (i : Int))), ("entry", .d (entryD e)), ("good", .d (.bool g))] : Nv) ∧ Ex H3 H4 ∧ KeyOk h.teeth key2 ∧
          againstFrom h 0 hall key r = ((if g = true then againstFrom h (i + 1) hall2 key2 (r.drop (i + 1)) else (againstFrom h (i + 1) hall2 key2 (r.drop (i + 1))).map ((i : Int) :: ·))).map (acc ++ ·)) ?_ fun tail => ?_
        · rintro nv H4 ⟨g, hall2, key2, rfl, e4, hk2, hbb⟩
          have hla4 := (hla.ex e3).ex e4
          refine go_when (et_not (et_val (ed_var (.next (.next (.next (.next (.next (.next (.here))))))) hs (by decide +kernel)))) (fun ht => ?_) fun ht => ?_
          · have hg : g = false := by simpa using ht
            subst hg
            refine go_app (ev_var (.next (.next (.next (.here)))) hs (by decide +kernel)) hla4 (ed_var (.next (.next (.next (.next (.here))))) hs (by decide +kernel)) (by rw [zD_len]; omega) fun H5 x5 hl5 => go_nil fun σ H6 e6 ok6 => ⟨_, pss_nil, ?_⟩
            rw [if_neg (by decide), opt_app] at hbb
            refine hnx σ H6 _ ok6 ⟨((xl.trans e3.l).trans e4.l).trans (x5.trans e6.l), _, _, _, hall2, key2, acc ++ [(i : Int)], rfl, hk2, ?_, by rw [List.length_append]; show acc.length + 1 ≤ i + 1; omega, ?_⟩
            · have := hl5.ex e6
              unfold zD at this ⊢
              rw [List.map_append]
              exact this
            · rw [hbb]
              rfl
          · have hg : g = true := by simpa using ht
            subst hg
            rw [if_pos rfl] at hbb
            exact go_nil fun σ H6 e6 ok6 => hnx σ H6 _ ok6 ⟨((xl.trans e3.l).trans e4.l).trans e6.l, _, _, _, hall2, key2, acc, rfl, hk2, hla4.ex e6, by omega, by rw [hbb]; rfl⟩
        cases e with
        | seen t lo hi' =>
          obtain ⟨⟨k1, k2⟩, _⟩ := hem
          have ka := key_at (key := key') k1 (by have := hk'.1; omega)
          refine go_if (((et_eq A (ed_ix (ed_var (.next (.next (.next (.next (.next (.here)))))) hs (by decide +kernel)) ed_int (by first | rfl | assumption | decide +kernel)) (ed_gstr (i := "seen") A hs (by decide +kernel) (by decide +kernel)) (by first | rfl | assumption | decide +kernel) (by first | rfl | assumption | decide +kernel))).is seen_seen) (fun ht => ?_) fun ht => by cases ht
          refine go_set A (ed_chain (ed_ix (ed_var (.next (.next (.next (.next (.next (.here)))))) hs (by decide +kernel)) ed_int (by first | rfl | assumption | decide +kernel)) (ed_ix (ed_ix (ed_var (.next (.here)) hs (by decide +kernel)) ed_int (by first | rfl | assumption | decide +kernel)) (ed_ix (ed_var (.next (.next (.next (.next (.next (.here)))))) hs (by decide +kernel)) ed_int (by first | rfl | assumption | decide +kernel)) (by first | rfl | assumption | decide +kernel)) (ed_ix (ed_var (.next (.next (.next (.next (.next (.here)))))) hs (by decide +kernel)) ed_int (by first | rfl | assumption | decide +kernel))) (.next (.next (.next (.next (.next (.next (.here))))))) (locN hf hs (by decide +kernel)) (go_nil fun σ H4 e4 ok4 => ?_)
          refine tail σ H4 _ ok4 ⟨_, hall', key', rfl, e4, hk', ?_⟩
          rw [hb]
          rfl
        | shut l =>
          refine go_if (((et_eq A (ed_ix (ed_var (.next (.next (.next (.next (.next (.here)))))) hs (by decide +kernel)) ed_int (by first | rfl | assumption | decide +kernel)) (ed_gstr (i := "seen") A hs (by decide +kernel) (by decide +kernel)) (by first | rfl | assumption | decide +kernel) (by first | rfl | assumption | decide +kernel))).is shut_seen) (fun ht => by cases ht) fun ht => ?_
          refine go_if (((et_eq A (ed_ix (ed_var (.next (.next (.next (.next (.next (.here)))))) hs (by decide +kernel)) ed_int (by first | rfl | assumption | decide +kernel)) (ed_gstr (i := "shut") A hs (by decide +kernel) (by decide +kernel)) (by first | rfl | assumption | decide +kernel) (by first | rfl | assumption | decide +kernel))).is shut_shut) (fun ht => ?_) fun ht => by cases ht
          refine go_set A (ed_isnt (ed_call A hs (ea_cons (ed_var .here hs (by decide +kernel)) (ea_cons (ed_var (.next (.here)) hs (by decide +kernel)) (ea_cons (ed_tup (ea_cons (ed_gstr (i := "go") A hs (by decide +kernel) (by decide +kernel)) (ea_cons (ed_ix (ed_var (.next (.next (.next (.next (.next (.here)))))) hs (by decide +kernel)) ed_int (by first | rfl | assumption | decide +kernel)) ea_nil))) ea_nil))) (R_bar_of.mk h hall' key' (.go l) ok hk')) ed_non) (.next (.next (.next (.next (.next (.next (.here))))))) (locN hf hs (by decide +kernel)) (go_nil fun σ H4 e4 ok4 => ⟨_, pss_nil, ?_⟩)
          refine tail σ H4 _ ok4 ⟨_, hall', key', rfl, e4, hk', ?_⟩
          rw [hb]
          rfl
        | deed d =>
          have hed : entryD (.deed d) = .tuple [.str (kind1 d), .int (arg1 d)] := deedD_eq d
          refine go_if ((et_eq A (ed_ix ((ed_var (.next (.next (.next (.next (.next (.here)))))) hs (by decide +kernel)).is hed) ed_int rfl) (ed_gstr (i := "seen") A hs (by decide +kernel) (by decide +kernel)) (shaped_kind d) (by decide +kernel)).is (kind_seen d)) (fun ht => by cases ht) fun ht => ?_
          refine go_if ((et_eq A (ed_ix ((ed_var (.next (.next (.next (.next (.next (.here)))))) hs (by decide +kernel)).is hed) ed_int rfl) (ed_gstr (i := "shut") A hs (by decide +kernel) (by decide +kernel)) (shaped_kind d) (by decide +kernel)).is (kind_shut d)) (fun ht => by cases ht) fun ht => ?_
          refine go_if (et_isnt (ed_call A hs (ea_cons (ed_var .here hs (by decide +kernel)) (ea_cons (ed_var (.next (.here)) hs (by decide +kernel)) (ea_cons (ed_var (.next (.next (.next (.next (.next (.here)))))) hs (by decide +kernel)) ea_nil))) (by constructor <;> first | assumption | rfl | omega)) ed_non) (fun ht => ?_) fun ht => ?_
          · refine go_ret ed_non fun v H4 e4 r4 => ?_
            have h5 : againstFrom h 0 hall key r = none := by
              rw [hb]
              show Option.map _ (if isN (bar h hall' key' d) = true then _ else none) = none
              rw [if_neg (by rw [show isN (bar h hall' key' d) = false by simpa using ht]; decide)]
              rfl
            have h6 := hD.to (show optZ (againstFrom h 0 hall key r) = .none by rw [h5]; rfl)
            show D'.rt v H4
            rw [hrt]
            exact h6.rt v H4 (fun b o z => e4 _ _ (e3 _ _ (xl _ _ (ne_of_none z na) (e2 _ _ (e0 _ _ z))))) r4
          · have hbn : isN (bar h hall' key' d) = true := by simpa using ht
            refine go_par2 A hs ed_bl (ed_call A hs (ea_cons (ed_var .here hs (by decide +kernel)) (ea_cons (ed_var (.next (.here)) hs (by decide +kernel)) (ea_cons (ed_var (.next (.next (.next (.next (.next (.here)))))) hs (by decide +kernel)) ea_nil))) (R_done_by.mk h hall' key' d ok hk' hem (bar_away hbn))) (.next (.next (.next (.next (.next (.next (.here))))))) (.next (.here)) (by decide) (by decide +kernel) (by decide +kernel) (by decide +kernel) (go_nil fun σ H4 e4 ok4 => ⟨_, pss_nil, _, pss_nil, ?_⟩)
            refine tail σ H4 _ ok4 ⟨true, hallBehind h hall' d, doneKey h d key', rfl, e4, done_ok ok hk' hbn, ?_⟩
            rw [hb]
            show Option.map _ (if isN (bar h hall' key' d) = true then _ else none) = _
            rw [if_pos hbn]
            rfl
    · rintro H2 nv H' e2 ⟨xl, s1, s2, s3, hall', key', acc, rfl, hk', hla, hacc, hb⟩
      have hfo := hla
      refine go_ret (ed_tupL A hs (EvV.r (ev_var (.next (.next (.next (.here)))) hs (by decide +kernel)) hfo)) fun v H1 e1 r1 => ?_
      rw [enumD_len, List.length_map, List.drop_length] at hb
      have h6 := hD.to (show optZ (againstFrom h 0 hall key r) = .tuple (zD acc) by rw [hb]; simp [againstFrom, optZ])
      exact h6.rt v H1 (fun b o z => e1 _ _ (xl _ _ (ne_of_none z na) (e2 _ _ (e0 _ _ z)))) r1⟩
end WK
/-! WKRow -/
set_option Elab.async false
set_option linter.all false
set_option maxRecDepth 100000
set_option maxHeartbeats 1000000
/-! rows.py: rows of one deed -/
namespace WK
open PySem PySem.Spec PyProof.Rows L2
inductive R_need_row : List PyData → PyData → Prop
  | mk (h : Ho) (d : Deed) (hd : DeedOk h d) : R_need_row [hoD h, .tuple [deedD d]] .none
theorem mem_one {x d : PyData} (h : d ∈ [x]) : d = x := by simpa using h
theorem sc_need_row : FnScope ((["house", "thing"] : List Str) ++ (["deed"] : List Str)) ["house", "thing"] (defScope (top 92)) := fnScope_by (by decide +kernel)
instance : HasCal "need_row" 4 ["house", "thing"] (SpD R_need_row) := ⟨fun P w K mg T => by
  refine Cal.pure T (i := 92) (more := (["deed"] : List Str)) (List.mem_of_getElem? (i := 45) rfl) (by decide +kernel) sc_need_row (fun _ _ _ _ _ _ us hl => match us, hl with | [_, _], _ => rfl) (by decide +kernel) (fun ds r h => by cases h <;> rfl) fun X A hs hf ds r h H D hD => ?_
  cases h with
  | mk h dd hdd =>
    simp only [nvOf, unM]
    refine go_when (et_bool (ew_or (et_not (et_val (ed_isTup A hs (ed_var (.next (.here)) hs (by decide +kernel))))) (fun h_1 => (ew_or1 (et_not (et_val (ed_all A hs (EvL.r (el_lc (N := ["house", "thing", "deed"]) (own := [("deed", 2)]) (fun _ => true) (fun _ => .bool true) A hs (ei_tup (ed_var (.next (.here)) hs (by decide +kernel))) (by first | omega | decide | (simp; done) | (simp; omega)) rfl (by decide +kernel) (.keep (by decide +kernel) (by decide) (.drop (.drop .nil))) (fun d hd => by
      obtain rfl := mem_one hd
      exact ⟨_, (.name (.next (.next (.here)))), fun X A hs => ⟨ts_nil, fun h_2 => (ed_call A hs (ea_cons (ed_var .here hs (by decide +kernel)) (ea_cons ((ed_var (.next (.next (.here))) hs (by decide +kernel)).is (x := entryD (.deed dd)) rfl) ea_nil)) (R_is_deed.mk h (.deed dd) hdd))⟩⟩))) (bools_map _ _)))))))) (fun ht => ?_) fun ht => go_nil fun σ H1 e1 _ => hD.nx rfl σ H1 e1
    rw [all_true] at ht
    cases ht⟩
def barD : PyData → PyData
  | .tuple l => .tuple (.int 0 :: l)
  | _ => .none
theorem barAt_tup (h : Ho) (hall : Int) (d : Deed) : ∀ (l : List Int) (n : Int), barAt h hall d n l = .none ∨ ∃ x y, barAt h hall d n l = .tuple [x, y]
  | [], _ => .inl rfl
  | x :: l, n => by
    unfold barAt
    split
    · exact .inr ⟨_, _, rfl⟩
    · split
      · exact .inr ⟨_, _, rfl⟩
      · exact barAt_tup h hall d l (n + 1)
theorem bar_tup (h : Ho) (hall : Int) (key : List Int) (d : Deed) : bar h hall key d = .none ∨ ∃ x y, bar h hall key d = .tuple [x, y] := by
  unfold bar
  split
  · exact .inr ⟨_, _, rfl⟩
  · exact barAt_tup h hall d key 0
inductive R_bar_at : List PyData → PyData → Prop
  | mk (h : Ho) (hall : Int) (key : List Int) (d : Deed) (ok : HoOk h) (hk : KeyOk h.teeth key) (hd : DeedOk h d) : R_bar_at [hoD h, standD hall key, .tuple [deedD d]] (barD (bar h hall key d))
theorem sc_bar_at : FnScope ((["house", "stand", "row"] : List Str) ++ (["place", "deed", "bar"] : List Str)) ["house", "stand", "row"] (defScope (top 93)) := fnScope_by (by decide +kernel)
instance : HasCal "bar_at" 4 ["house", "stand", "row"] (SpD R_bar_at) := ⟨fun P w K mg T => by
  refine Cal.pure T (i := 93) (more := (["place", "deed", "bar"] : List Str)) (List.mem_of_getElem? (i := 46) rfl) (by decide +kernel) sc_bar_at (fun _ _ _ _ _ _ us hl => match us, hl with | [_, _, _], _ => rfl) (by decide +kernel) (fun ds r h => by cases h <;> rfl) fun X A hs hf ds r h H D hD => ?_
  cases h with
  | mk h hall key dd ok hk hdd =>
    simp only [nvOf, unM]
    refine go_forP (fun i nv => (i = 0 ∧ nv = ([("house", .d (hoD h)), ("stand", .d (standD hall key)), ("row", .d (.tuple [deedD dd])), ("place", .un), ("deed", .un), ("bar", .un)] : Nv)) ∨ (i = 1 ∧ isN (bar h hall key dd) = true ∧ ∃ s0 s1 s2 s3, nv = ([("house", .d (hoD h)), ("stand", s0), ("row", .d (.tuple [deedD dd])), ("place", s1), ("deed", s2), ("bar", s3)] : Nv))) A (ei_enum A hs (by decide +kernel) (ed_var (.next (.next (.here))) hs (by decide +kernel)))
      (.inl ⟨rfl, rfl⟩) ?_ ?_
    · rintro i d nv H' hd (⟨rfl, rfl⟩ | ⟨rfl, _⟩) e1
      · obtain rfl : PyData.tuple [.int 0, deedD dd] = d := by
          rw [enumD_get] at hd
          exact Option.some.inj hd
        refine ⟨_, _, .tup (.cons (.name (.next (.next (.next (.here))))) (.cons (.name (.next (.next (.next (.next (.here)))))) .nil)), fun q hq => locN hf hs (by simp at hq; rcases hq with rfl | rfl <;> decide +kernel), ?_⟩
        refine go_set A (ed_call A hs (ea_cons (ed_var .here hs (by decide +kernel)) (ea_cons (ed_var (.next (.here)) hs (by decide +kernel)) (ea_cons (ed_var (.next (.next (.next (.next (.here))))) hs (by decide +kernel)) ea_nil))) (by constructor <;> first | assumption | rfl | omega)) (.next (.next (.next (.next (.next (.here)))))) (locN hf hs (by decide +kernel)) ?_
        refine go_when (et_isnt (ed_var (.next (.next (.next (.next (.next (.here)))))) hs (by decide +kernel)) ed_non) (fun ht => ?_) fun ht => ?_
        · rcases bar_tup h hall key dd with hb | ⟨x, y, hb⟩
          · rw [hb] at ht
            cases ht
          · exact go_outX (ed_cat (ed_tup (ea_cons (ed_var (.next (.next (.next (.here)))) hs (by decide +kernel)) ea_nil)) ((ed_var (.next (.next (.next (.next (.next (.here)))))) hs (by decide +kernel)).is hb) (Nat.le_of_ble_eq_true rfl)) (by rw [hb]; rfl) hD e1
        · have hb : isN (bar h hall key dd) = true := by simpa using ht
          have na := bar_away hb
          exact go_set A (ed_call A hs (ea_cons (ed_var .here hs (by decide +kernel)) (ea_cons (ed_var (.next (.here)) hs (by decide +kernel)) (ea_cons (ed_var (.next (.next (.next (.next (.here))))) hs (by decide +kernel)) ea_nil))) (by constructor <;> first | assumption | rfl | omega)) (.next (.here)) (locN hf hs (by decide +kernel)) (go_nil fun σ H1 e2 ok => ⟨e2, _, ok, .inr ⟨rfl, hb, _, _, _, _, rfl⟩⟩)
      · rw [enumD_get] at hd
        cases hd
    · rintro nv H' e1 (⟨hi, _⟩ | ⟨_, hb, s0, s1, s2, s3, rfl⟩)
      · rw [enumD_len] at hi
        cases hi
      · have hb0 : bar h hall key dd = .none := by
          rcases bar_tup h hall key dd with hb | ⟨x, y, hbt⟩
          · exact hb
          · rw [hbt] at hb
            cases hb
        exact go_outX ed_non (by rw [hb0]; rfl) hD e1⟩
inductive R_behind_by : List PyData → PyData → Prop
  | mk (h : Ho) (hall : Int) (key : List Int) (d : Deed) (ok : HoOk h) (hk : KeyOk h.teeth key) (hd : DeedOk h d) (na : away h hall d = false) : R_behind_by [hoD h, standD hall key, .tuple [deedD d]] (standD (hallBehind h hall d) (doneKey h d key))
theorem sc_behind_by : FnScope ((["house", "stand", "row"] : List Str) ++ (["deed"] : List Str)) ["house", "stand", "row"] (defScope (top 94)) := fnScope_by (by decide +kernel)
instance : HasCal "behind_by" 4 ["house", "stand", "row"] (SpD R_behind_by) := ⟨fun P w K mg T => by
  refine Cal.pure T (i := 94) (more := (["deed"] : List Str)) (List.mem_of_getElem? (i := 47) rfl) (by decide +kernel) sc_behind_by (fun _ _ _ _ _ _ us hl => match us, hl with | [_, _, _], _ => rfl) (by decide +kernel) (fun ds r h => by cases h <;> rfl) fun X A hs hf ds r h H D hD => ?_
  cases h with
  | mk h hall key dd ok hk hdd na =>
    simp only [nvOf, unM]
    refine go_forP (fun i nv => (i = 0 ∧ nv = ([("house", .d (hoD h)), ("stand", .d (standD hall key)), ("row", .d (.tuple [deedD dd])), ("deed", .un)] : Nv)) ∨ (i = 1 ∧ ∃ s1, nv = ([("house", .d (hoD h)), ("stand", .d (standD (hallBehind h hall dd) (doneKey h dd key))), ("row", .d (.tuple [deedD dd])), ("deed", s1)] : Nv))) A (ei_tup (ed_var (.next (.next (.here))) hs (by decide +kernel)))
      (.inl ⟨rfl, rfl⟩) ?_ ?_
    · rintro i d nv H' hd (⟨rfl, rfl⟩ | ⟨rfl, _⟩) e1
      · obtain rfl : deedD dd = d := Option.some.inj hd
        refine ⟨_, _, .name (.next (.next (.next (.here)))), fun q hq => locN hf hs (by simp at hq; rcases hq with rfl; decide +kernel), ?_⟩
        exact go_set A (ed_call A hs (ea_cons (ed_var .here hs (by decide +kernel)) (ea_cons (ed_var (.next (.here)) hs (by decide +kernel)) (ea_cons (ed_var (.next (.next (.next (.here)))) hs (by decide +kernel)) ea_nil))) (by constructor <;> first | assumption | rfl | omega)) (.next (.here)) (locN hf hs (by decide +kernel)) (go_nil fun σ H1 e2 ok => ⟨e2, _, ok, .inr ⟨rfl, _, rfl⟩⟩)
      · cases hd
    · rintro nv H' e1 (⟨hi, _⟩ | ⟨_, s1, rfl⟩)
      · cases hi
      · exact go_outX (ed_var (.next (.here)) hs (by decide +kernel)) rfl hD e1⟩
end WK
/-! WKMul -/
set_option Elab.async false
set_option linter.all false
set_option maxRecDepth 100000
set_option maxHeartbeats 4000000
/-! tuple * 1 -/
namespace WK
open PySem PySem.Spec PyProof.Rows L2
theorem wk_mul1W (l : Addr) (items : Array Value) (n : Nat) (dd : Option Addr) (sl : Array (Option Value)) (x : Int) (u : Tok) (c0 : (decide (x < -(2 ^ 63)) || decide (x ≥ 2 ^ 63)) = false) (c1 : (items.isEmpty || x == 1) = true) :
    Meets (Builtin.«tuple.__mul__» ⟨[.ref l, .int x u], []⟩) (fun _ R s => s.heap.get? l = some { cls := .type "tuple", dict := dd, data := .seq items n, slots := sl } ∧ R (.ok (.ret (Value.ref l))) s) :=
  .of_wp fun prog w A R s h => by
    obtain ⟨hp, g, d, tk, os⟩ := s
    obtain ⟨hl, h⟩ := h
    have f1 := AutoSeq1.idx_int
    wp_walk using wpAny_loadPart' hl
    repeat (first
      | (refine wpAny_ite_false (decide_eq_false (by rw [c0]; exact Bool.false_ne_true)) ?_; wp_walk using wpAny_loadPart' hl)
      | (refine wpAny_ite_true (decide_eq_true (by rw [c1])) ?_; wp_walk using wpAny_loadPart' hl))
    exact ⟨_, rfl, h⟩

def rRep1 (K : PySem.W.Frag) : R2 := fun x y H Q => ∃ l xs, x = .ref l ∧ y = .int 1 ∧ SqT K H l xs ∧ Q (.ref l) H
section
variable {X : Cx}
theorem op_rep1 : OpR X (binaryOp .Mult) (rRep1 X.K) := by
  intro pins s σ H x y v u Q I rx ry h
  obtain ⟨l, xs, rfl, rfl, hT, q⟩ := h
  cases rx
  obtain ⟨t, rfl⟩ := ry
  obtain ⟨its, r, ⟨⟨cls, dd, data, sl⟩, ho, hc, n, hd⟩, hs⟩ := I.tuple hT
  simp only at hc hd
  subst hc hd
  have c1 : (its.toArray.isEmpty || (1 : Int) == 1) = true := by simp
  refine wpAny_binaryOp_repeat_ref (T := "tuple") (U := "int") (by decide) ⟨_, ho, rfl⟩ (fun s' => typeIs_int s' 1 t) noFill_tuple_mul F.fills_int_mul F.slot_int_rmul repeat_tuple F.slot_int_index.lookup
    (call_meets F.slot_int_rmul (typeIs_int s 1 t) F.entry_int_rmul (F.args_int_rmul_2 _ _) (int_rmul_tuple 1 t l its.toArray n dd sl)
      ⟨ho, rfl, ⟨_, ho, rfl⟩, call_meets F.slot_tuple_mul ⟨_, ho, rfl⟩ F.entry_tuple_mul (F.args_tuple_mul_2 _ _) (wk_mul1W l its.toArray n dd sl 1 t (by decide) c1) ⟨ho, ?_⟩⟩)
  exact ⟨.ref l, H, I.tok _, rfl, q⟩
end
section
variable {X : Cx} {k : Nat} {a b : Expr} {env : Nv} {H : Hp} {ds : List PyData} {pos : Pos} {n : Int}
theorem ed_rep (ha : EvD X a env H (.tuple ds)) (hb : EvD X b env H (.int n)) (h0 : ds ≠ []) (h1 : 1 ≤ n) (h2 : n ≤ 1000) (hl : ds.length ≤ 1000) : EvD X (.BinOp a .Mult b pos) env H (.tuple (List.replicate n.toNat ds).flatten) := ⟨fun σ H1 e0 ok Q q =>
  ⟨_, pe_op (OpR.or op_rep1 op_repT) pe_w pe_w, bin2 ha hb e0 ok fun v u H2 e2 r1 r2 => by
    cases r1 with
    | @tup al vl _ k1 q1 =>
    cases r2
    by_cases e : n = 1
    · subst e
      refine .inl ⟨al, vl, rfl, rfl, SqT.of k1, q _ H2 e2 ?_⟩
      have e3 : (List.replicate (1 : Int).toNat ds).flatten = ds := by simp
      rw [e3]
      exact .tup k1 q1
    · refine .inr ⟨al, n, vl, rfl, rfl, SqT.of k1, ?_, by omega, h2, by rw [q1.len]; exact hl, fun pp hp => q _ _ (e2.trans (Ex.new hp)) (.tup upd_same ?_)⟩
      · intro z
        subst z
        cases q1
        exact h0 rfl
      · have key : ∀ m : Nat, RpA H2 (List.replicate m vl).flatten (List.replicate m ds).flatten := by
          intro m
          induction m with
          | zero => exact .nil
          | succ m ih =>
            rw [List.replicate_succ, List.replicate_succ, List.flatten_cons, List.flatten_cons]
            exact q1.app ih
        exact (key n.toNat).mono (Ex.new hp).t⟩⟩
end
end WK
/-! WKBox -/
set_option Elab.async false
set_option linter.all false
set_option maxRecDepth 100000
set_option maxHeartbeats 1000000
/-! boxes.py: keys of a box -/
namespace WK
open PySem PySem.Spec PyProof.Rows L2
section
variable {X : Cx} {k : Nat} {e a b it tg : Expr} {env env' : Nv} {H : Hp} {D : Ends} {ds : List PyData} {pos p : Pos} {sc : Scope} {rest : List Stmt} {l : Addr} {own : List Addr}
def rangeD2 (i j : Int) : List PyData := (List.range (j - i).toNat).map fun (n : Nat) => .int (i + (n : Int))
theorem ei_range2 {n m : Int} (A : Hs X k) (hs : X.env.scope = sc) (hg : glB sc "range" = true) (h : EvD X a env H (.int n)) (h2 : EvD X b env H (.int m)) (hn : 0 ≤ n ∧ n ≤ 1000000) (hm : 0 ≤ m ∧ m ≤ 1000000) (hp : plainE a = true := by rfl) (hp2 : plainE b = true := by rfl) :
    EvI X tg (.Call (.Name "range" p) [a, b] [] pos) env H (rangeD2 n m) [] := ⟨fun σ H1 e0 ok R q =>
  ⟨_, pi_range2 (gl_of hs hg) (A.t.free (by decide +kernel)) pa_w (by rw [star_of hp, star_of hp2]; rfl) (star_of hp2), ((ea_cons h (ea_cons h2 ea_nil hp2) hp).run σ H1 e0 ok _ fun vs H2 e2 r => by
    cases r with
    | cons r1 r2 =>
    cases r2 with
    | cons r2 r3 =>
    cases r3
    cases r1
    cases r2
    refine ⟨n, m, rfl, by first | omega | exact ⟨by omega, by omega, by omega, by omega⟩, q _ H2 [] e2 (fun b hb => by cases hb) ⟨?_⟩⟩
    have hl : (rangeD2 n m).length = (m - n).toNat := by unfold rangeD2; simp
    rw [hl]
    refine walk_mono walk_range (fun _ _ => True.intro) fun i H' x H'' hi g y => ?_
    obtain ⟨e, z⟩ := y
    subst e z
    refine ⟨Ex.refl _, .int (n + (i : Int)), ?_, .int _⟩
    unfold rangeD2
    rw [List.getElem?_map, List.getElem?_range hi]
    rfl)⟩⟩
/-- x = y, y a list's name -/
theorem go_setV {i : Nat} {n : Str} {p' : Pos} {v : V} (A : Hs X k) (h : EvV X e env H v) (hp : Put env i n (.v v) env') (hl : LocN X n) (q : Go X rest env' H D) (hs : swapsWith e (some (.Name n p')) pos.line X.env = pure false := by rfl) :
    Go X (.Assign [.Name n p'] e pos :: rest) env H D := ⟨fun σ H1 e0 ok =>
  ⟨_, pss_cons (ps_set A.nd (by rw [ok.names]; exact hp.name.1) hl.loc pe_w hs hl.fn) pb_w, h.run σ H1 e0 ok _ fun H2 e2 => q.run _ H2 (e0.trans e2) ((ok.mono e2.t).put hp rfl hl.vis)⟩⟩
theorem pk_o {l : Addr} {ds : List PyData} {H H2 H' : Hp} {o : List Addr} (hl : Lst H l ds) (e : Ex H H2) (hw : ∀ b ∈ o, (H b = none ∨ b ∈ own) ∧ ∃ u, H2 b = some u) (ho : ∀ b ∈ own, b ≠ l) (x : ExL l H2 H') : TLe H2 H' ∧ ∀ b ∈ o, H' b = H2 b := by
  refine ⟨x.t (hl.ex e).not, fun b hb => ?_⟩
  obtain ⟨h1, u, hu⟩ := hw b hb
  have hn : b ≠ l := by
    intro z
    rcases h1 with h1 | h1
    · rw [z] at h1
      obtain ⟨vs, h2, _⟩ := hl
      rw [h2] at h1
      cases h1
    · exact ho b h1 z
  rw [hu]
  exact x b _ hn hu
end
def boxW (n : Nat) : List (Int × Int) := List.replicate n (0, 6)
inductive R_whole_box : List PyData → PyData → Prop
  | mk (n : Int) (h1 : 1 ≤ n) (h2 : n ≤ 1000) : R_whole_box [.int n] (bD (boxW n.toNat))
theorem rep_one {α : Type} (x : α) : ∀ n : Nat, (List.replicate n [x]).flatten = List.replicate n x
  | 0 => rfl
  | n + 1 => by
    rw [List.replicate_succ, List.flatten_cons, rep_one x n]
    rfl
theorem sc_whole_box : FnScope ((["teeth"] : List Str) ++ ([] : List Str)) ["teeth"] (defScope (top 36)) := fnScope_by (by decide +kernel)
instance : HasCal "whole_box" 1 ["teeth"] (SpD R_whole_box) := ⟨fun P w K mg T => by
  refine Cal.pure T (i := 36) (more := ([] : List Str)) (List.mem_of_getElem? (i := 8) rfl) (by decide +kernel) sc_whole_box (fun _ _ _ _ _ _ us hl => match us, hl with | [_], _ => rfl) (by decide +kernel) (fun ds r h => by cases h <;> rfl) fun X A hs hf ds r h H D hD => ?_
  cases h with
  | mk n h1 h2 =>
    simp only [nvOf, unM]
    exact go_out (ed_rep (ed_tup (ea_cons (ed_tup (ea_cons ed_int (ea_cons (ed_gint (i := 6) A hs (by decide +kernel) (by decide +kernel)) ea_nil))) ea_nil)) (ed_var .here hs (by decide +kernel)) (by simp) h1 h2 (Nat.le_of_ble_eq_true rfl)) (by
      rw [rep_one]
      unfold bD boxW
      rw [List.map_replicate]
      rfl) hD⟩
def moved (key : List Int) (t : Nat) (by_ : Int) : List Int := key.set t ((key[t]?).getD 0 + by_)
inductive R_moved_end : List PyData → PyData → Prop
  | mk (key : List Int) (t : Nat) (by_ : Int) (h : t < key.length) (hl : key.length ≤ 1000) : R_moved_end [kD key, .int (t : Int), .int by_] (kD (moved key t by_))
theorem moved_cut (key : List Int) (t : Nat) (by_ : Int) (h : t < key.length) : (cutD (zD key) none (some (t : Int)) ++ [.int ((key[t]?).getD 0 + by_)]) ++ cutD (zD key) (some ((t : Int) + 1)) none = zD (moved key t by_) := by
  have e : ((t : Int) + 1) = ((t + 1 : Nat) : Int) := by omega
  rw [e, cut_to, cut_from]
  unfold moved zD
  rw [List.set_eq_take_append_cons_drop, if_pos h, List.map_append, List.map_take, List.map_cons, List.map_drop, List.append_assoc]
  rfl
theorem sc_moved_end : FnScope ((["key", "tooth", "by"] : List Str) ++ ([] : List Str)) ["key", "tooth", "by"] (defScope (top 39)) := fnScope_by (by decide +kernel)
instance : HasCal "moved_end" 1 ["key", "tooth", "by"] (SpD R_moved_end) := ⟨fun P w K mg T => by
  refine Cal.pure T (i := 39) (more := ([] : List Str)) (List.mem_of_getElem? (i := 10) rfl) (by decide +kernel) sc_moved_end (fun _ _ _ _ _ _ us hl => match us, hl with | [_, _, _], _ => rfl) (by decide +kernel) (fun ds r h => by cases h <;> rfl) fun X A hs hf ds r h H D hD => ?_
  cases h with
  | mk key t by_ h hl =>
    have ka := key_at (key := key) (t := (t : Int)) (by omega) (by omega)
    rw [Int.toNat_natCast] at ka
    have c1 : (cutD (zD key) none (some (t : Int))).length ≤ 1000 := by
      rw [cut_to, List.length_take, zD_len]
      omega
    have c2 : (cutD (zD key) (some ((t : Int) + 1)) none).length ≤ 1000 := by
      rw [show ((t : Int) + 1) = ((t + 1 : Nat) : Int) by omega, cut_from, List.length_drop, zD_len]
      omega
    simp only [nvOf, unM]
    exact go_out (ed_cat (ed_cat (ed_slice (ed_var .here hs (by decide +kernel)) eo_none (eo_some (ed_var (.next (.here)) hs (by decide +kernel)))) (ed_tup (ea_cons (ed_add (ed_ix (ed_var .here hs (by decide +kernel)) (ed_var (.next (.here)) hs (by decide +kernel)) ka) (ed_var (.next (.next (.here))) hs (by decide +kernel))) ea_nil)) (by simp only [List.length_cons, List.length_nil]; omega)) (ed_slice (ed_var .here hs (by decide +kernel)) (eo_some (ed_add (ed_var (.next (.here)) hs (by decide +kernel)) ed_int)) eo_none) (by rw [List.length_append]; simp only [List.length_cons, List.length_nil]; omega)) (by rw [moved_cut key t by_ h]; rfl) hD⟩
/-- all keys of n teeth -/
def allKeys : Nat → List (List Int)
  | 0 => [[]]
  | n + 1 => (allKeys n).flatMap fun key => (List.range 7).map fun (h : Nat) => key ++ [(h : Int)]
def grown (key : List Int) : List (List Int) := (List.range 7).map fun (h : Nat) => key ++ [(h : Int)]
def growF (key : List Int) : PyData → PyData
  | .int i => kD (key ++ [i])
  | _ => .none
theorem grow_map (key : List Int) : ((rangeD2 0 (6 + 1)).filter fun _ => true).map (growF key) = (grown key).map kD := by
  unfold rangeD2 grown
  rw [filt_all, List.map_map, List.map_map]
  apply List.map_congr_left
  intro n _
  show kD (key ++ [0 + (n : Int)]) = kD (key ++ [(n : Int)])
  rw [Int.zero_add]
theorem allKeys_len : ∀ n : Nat, (allKeys n).length = 7 ^ n
  | 0 => rfl
  | n + 1 => by
    show ((allKeys n).flatMap fun key => (List.range 7).map fun (h : Nat) => key ++ [(h : Int)]).length = _
    rw [List.length_flatMap]
    simp only [List.length_map, List.length_range]
    rw [List.map_const', List.sum_replicate_nat, allKeys_len n, Nat.pow_succ]
theorem mem_range2 {d : PyData} {n m : Int} (h : d ∈ rangeD2 n m) : ∃ i : Int, n ≤ i ∧ i < m ∧ d = .int i := by
  unfold rangeD2 at h
  obtain ⟨i, hi, rfl⟩ := List.mem_map.mp h
  have := List.mem_range.mp hi
  exact ⟨n + i, by omega, by omega, rfl⟩
theorem allKeys_each : ∀ (n : Nat) (key : List Int), key ∈ allKeys n → key.length = n
  | 0, key, h => by
    have e : key = [] := by simpa [allKeys] using h
    rw [e]
    rfl
  | n + 1, key, h => by
    obtain ⟨k2, h1, h2⟩ := List.mem_flatMap.mp h
    obtain ⟨i, _, rfl⟩ := List.mem_map.mp h2
    rw [List.length_append, allKeys_each n k2 h1]
    rfl
inductive R_keys_in : List PyData → List PyData → Prop
  | mk (n : Nat) (h : n ≤ 3) : R_keys_in [bD (boxW n)] ((allKeys n).map kD)
theorem sc_keys_in : FnScope ((["box"] : List Str) ++ (["found", "low", "high", "longer", "key", "height"] : List Str)) ["box"] (defScope (top 38)) := fnScope_by (by decide +kernel)
instance : HasCal "keys_in" 1 ["box"] (SpL R_keys_in) := ⟨fun P w K mg T => by
  refine Cal.pureL T (i := 38) (more := (["found", "low", "high", "longer", "key", "height"] : List Str)) (List.mem_of_getElem? (i := 9) rfl) (by decide +kernel) sc_keys_in (fun _ _ _ _ _ _ us hl => match us, hl with | [_], _ => rfl) (by decide +kernel) (fun ds r h => by cases h <;> rfl) fun X A hs hf ds r h H D hD => ?_
  cases h with
  | mk n h =>
    have h7 : ∀ m : Nat, m ≤ 3 → 7 ^ m ≤ 343 := by
      intro m hm
      have : m = 0 ∨ m = 1 ∨ m = 2 ∨ m = 3 := by omega
      rcases this with rfl | rfl | rfl | rfl <;> decide
    simp only [nvOf, unM]
    refine go_setL A (el_lst (ea_cons (ed_tup ea_nil) ea_nil)) (fun _ => (.next (.here))) (locN hf hs (by decide +kernel)) fun a0 H0 na e0 hfo0 => ?_
    refine go_forQ (fun H2 i nv H' => Ex H2 H' ∧ i ≤ n ∧ ∃ a s1 s2 s3 s4 s5, nv = ([("box", .d (bD (boxW n))), ("found", .v (.ref a)), ("low", s1), ("high", s2), ("longer", s3), ("key", s4), ("height", s5)] : Nv) ∧ H a = none ∧ Lst H' a ((allKeys i).map kD)) A (ei_tup (ed_var .here hs (by decide +kernel)))
      (fun H2 e2 => ⟨Ex.refl H2, Nat.zero_le _, a0, _, _, _, _, _, rfl, na, hfo0.ex e2⟩) (fun H2 o e2 ho i nv H' p => ⟨p.1.t, fun b hb => by
        obtain ⟨_, u, hu⟩ := ho b hb
        rw [hu]
        exact p.1 b _ hu⟩) ?_ ?_
    · rintro H2 i d nv H' e2 hd ⟨ex, hin, a, s1, s2, s3, s4, s5, rfl, han, hla⟩
      obtain ⟨hin2, rfl⟩ : i < n ∧ PyData.tuple [.int 0, .int 6] = d := by
        unfold boxW at hd
        rw [List.map_replicate, List.getElem?_replicate] at hd
        split at hd
        · exact ⟨by assumption, Option.some.inj hd⟩
        · cases hd
      refine ⟨_, _, .tup (.cons (.name (.next (.next (.here)))) (.cons (.name (.next (.next (.next (.here))))) .nil)), fun q hq => locN hf hs (by simp at hq; rcases hq with rfl | rfl <;> decide +kernel), fun H3 D' e3 hnx hct hbk hrt => ?_⟩
      refine go_setL A (el_lst ea_nil) (fun _ => (.next (.next (.next (.next (.here)))))) (locN hf hs (by decide +kernel)) fun l H4 nl e4 hlo => ?_
      have hfo := (hla.ex e3).ex e4
      have nal : a ≠ l := by
        intro z
        rw [z] at hla
        obtain ⟨vs, h1, _⟩ := hla.ex e3
        rw [nl] at h1
        cases h1
      refine go_forQ (fun G2 j nv H' => ExL l G2 H' ∧ ∃ s4 s5, nv = ([("box", .d (bD (boxW n))), ("found", .v (.ref a)), ("low", .d (.int 0)), ("high", .d (.int 6)), ("longer", .v (.ref l)), ("key", s4), ("height", s5)] : Nv) ∧ Lst H' l ((((allKeys i).take j).flatMap grown).map kD)) A (ei_lst (ev_var (.next (.here)) hs (by decide +kernel)) hfo)
        (fun G2 g2 => ⟨(Ex.refl G2).l, _, _, rfl, hlo.ex g2⟩) (fun G2 o g2 ho j nv H' p => pk_o hlo g2 ho (fun b hb => by
          have : b = a := by simpa using hb
          rw [this]
          exact nal) p.1) ?_ ?_
      · rintro G2 j d nv G' g2 hd ⟨xl, s4, s5, rfl, hll⟩
        rw [List.getElem?_map] at hd
        cases hx : (allKeys i)[j]? with
        | none =>
          rw [hx] at hd
          cases hd
        | some key =>
          rw [hx] at hd
          obtain rfl : kD key = d := by simpa using hd
          have hkl0 := allKeys_each i key (List.mem_of_getElem? hx)
          have hkl : ∀ z : PyData, (zD key).length + [z].length ≤ 100000 := by
            intro z
            rw [zD_len]
            simp only [List.length_cons, List.length_nil]
            omega
          refine ⟨_, _, .name (.next (.next (.next (.next (.next (.here)))))), fun q hq => locN hf hs (by simp at hq; rcases hq with rfl; decide +kernel), fun G3 D2 g3 knx kct kbk krt => ?_⟩
          have hlo3 := hll.ex g3
          have hj : j < (allKeys i).length := (List.getElem?_eq_some_iff.mp hx).1
          have hsz : ((((allKeys i).take j).flatMap grown).map kD).length + (((rangeD2 0 (6 + 1)).filter fun _ => true).map (growF key)).length ≤ 100000 := by
            rw [grow_map, List.length_map, List.length_map, List.length_flatMap]
            unfold grown
            simp only [List.length_map, List.length_range]
            rw [List.map_const', List.sum_replicate_nat, List.length_take, allKeys_len] at *
            have := h7 i (by omega)
            omega
          refine go_ext (ev_var (.next (.next (.next (.next (.here))))) hs (by decide +kernel)) hlo3 (el_lc (N := ["box", "found", "low", "high", "longer", "key", "height"]) (own := [("height", 6)]) (fun _ => true) (growF key) A hs (ei_range2 A hs (by decide +kernel) (ed_var (.next (.next (.here))) hs (by decide +kernel)) (ed_add (ed_var (.next (.next (.next (.here)))) hs (by decide +kernel)) ed_int) (by omega) (by omega)) (by unfold rangeD2; simp) rfl (by decide +kernel) (.drop (.drop (.drop (.drop (.drop (.keep (by decide +kernel) (by decide) (.drop .nil))))))) (fun d hd => by
      obtain ⟨i, k1, k2, rfl⟩ := mem_range2 hd
      exact ⟨_, (.name (.next (.next (.next (.next (.next (.next (.here)))))))), fun X A hs => ⟨ts_nil, fun h_1 => ((ed_cat (ed_var (.next (.next (.next (.next (.next (.here)))))) hs (by decide +kernel)) (ed_tup (ea_cons (ed_var (.next (.next (.next (.next (.next (.next (.here))))))) hs (by decide +kernel)) ea_nil)) (hkl _)).is (by unfold growF kD zD; simp))⟩⟩)) hsz fun H5 x5 hl5 => go_nil fun σ H6 e6 ok6 => ?_
          refine knx σ H6 _ ok6 ⟨(xl.trans g3.l).trans (x5.trans e6.l), _, _, rfl, ?_⟩
          have := hl5.ex e6
          rw [grow_map, ← List.map_append] at this
          rw [List.take_add_one, hx, List.flatMap_append]
          simpa using this
      · rintro G2 nv G' g2 ⟨xl, s4, s5, rfl, hll⟩
        refine go_setV A (ev_var (.next (.next (.next (.next (.here))))) hs (by decide +kernel)) (.next (.here)) (locN hf hs (by decide +kernel)) (go_nil fun σ H6 e6 ok6 => ?_)
        have g2' : Ex H3 G2 := e4.trans g2
        have exx : Ex H3 G' := fun b o z => xl b o (ne_of_none z nl) (g2' b o z)
        refine hnx σ H6 _ ok6 ⟨((ex.trans e3).trans exx).trans e6, hin2, l, _, _, _, _, _, rfl, ?_, ?_⟩
        · exact ((((e0.trans e2).trans ex).trans e3).back nl)
        · rw [List.length_map, List.take_of_length_le (Nat.le_refl _)] at hll
          exact hll.ex e6
    · rintro H2 nv H' e2 ⟨ex, hin, a, s1, s2, s3, s4, s5, rfl, han, hla⟩
      refine go_retV (ev_var (.next (.here)) hs (by decide +kernel)) fun H1 e1 => ?_
      have hn : ((boxW n).map gD).length = n := by unfold boxW; simp
      rw [hn] at hla
      exact hD a H1 han (((e0.trans e2).trans ex).trans e1) (hla.ex e1)⟩
end WK
/-! WKSort -/
set_option Elab.async false
set_option linter.all false
set_option maxRecDepth 100000
set_option maxHeartbeats 1000000
/-! sorted: of a list of data, of a dict with tuple keys; any length. -/
namespace WK
open PySem PySem.Spec PyProof.Rows L2
open PySem.W (EachIs AllAlike Sortable dataLe)
/-- what stands for the datum -/
def Std (H : Hp) (v : Value) (d : PyData) : Prop := ∃ x : V, RelV x v ∧ Rp H x d
theorem std_of {H : Hp} : ∀ {xs : List V} {vs : List Value} {ds : List PyData}, Vals xs vs → RpA H xs ds → EachIs (Std H) vs ds
  | _, _, _, .nil, .nil => .nil
  | _, _, _, .cons r rr, .cons q qq => .cons ⟨_, r, q⟩ (std_of rr qq)
theorem of_std {H : Hp} : ∀ {vs : List Value} {ds : List PyData}, EachIs (Std H) vs ds → ∃ xs, Vals xs vs ∧ RpA H xs ds
  | _, _, .nil => ⟨[], .nil, .nil⟩
  | _, _, .cons ⟨x, r, q⟩ e => by
    obtain ⟨xs, r2, q2⟩ := of_std e
    exact ⟨x :: xs, .cons r r2, .cons q q2⟩
theorem each_mono {R R' : Value → PyData → Prop} : ∀ {vs : List Value} {ds : List PyData}, EachIs R vs ds → (∀ v d, R v d → R' v d) → EachIs R' vs ds
  | _, _, .nil, _ => .nil
  | _, _, .cons h t, f => .cons (f _ _ h) (each_mono t f)
theorem each_mem_reads {R R' : Value → PyData → Prop} : ∀ {vs : List Value} {ds : List PyData}, EachIs R vs ds → (∀ v d, d ∈ ds → R v d → R' v d) → EachIs R' vs ds
  | _, _, .nil, _ => .nil
  | _, _, .cons h t, f => .cons (f _ _ List.mem_cons_self h) (each_mem_reads t fun v d hd => f v d (List.mem_cons_of_mem _ hd))
theorem std_reads {X : Cx} {pins : List (Addr × Obj)} {σ : L2.St} {H : Hp} {s : Shared} (I : Inv X pins σ H s) {v : Value} {d : PyData} (h : Std H v d) : ∃ as, Reads s.heap v d as := by
  obtain ⟨x, r, q⟩ := h
  exact Dp.reads I d x v q.dp r
/-- may be sorted -/
structure Srt (ds : List PyData) : Prop where
  alike : AllAlike ds
  sortable : Sortable ds
  len : ds.length ≤ 100000
  deep : ∀ d ∈ ds, d.depth ≤ 8
def sortD (ds : List PyData) : List PyData := ds.mergeSort (dataLe false (fun d : PyData => d))
theorem sortD_perm (ds : List PyData) : (sortD ds).Perm ds := List.mergeSort_perm _ _
section
variable {X : Cx}
theorem cr_srt (hu : X.A.units + 64 < cLine) : CallR X (.builtin "sorted") (fun vs H Q => ∃ l xs ds, vs = [.ref l] ∧ SqL X.K H l xs ∧ RpA H xs ds ∧ Srt ds ∧ ∀ p ys, H p = none → RpA H ys (sortD ds) → Q (.ref p) (upd H p (.lst ys))) := by
  intro pins s σ H vs us Q I r h
  obtain ⟨l, xs, ds, rfl, hs, hx, S, q⟩ := h
  obtain ⟨its, rv, hl, hz⟩ := I.list hs
  rw [Vals.ref1 r]
  have hid : ds.map (fun d : PyData => d) = ds := List.map_id ds
  have e := std_of rv hx
  have hL : ds.length ≤ sizeLine := Nat.le_trans S.len (by decide)
  refine PySem.W.sorted_data (R := Std H) (enc := fun d => d) hl.isList e (each_mono e fun v d h => std_reads I h) (by rw [hid]; exact S.alike) (by rw [hid]; exact S.sortable) hL (fun d hd => ?_) fun out h1 h2 => ?_
  · have := S.deep d hd
    show X.A.units + 2 + d.depth < cLine
    omega
  · obtain ⟨ys, rv2, hy⟩ := of_std h2
    obtain ⟨ep, he'⟩ := PyProof.Rows.sortedAll_at s.heap its out.toArray
    have hlen : ys.length ≤ sizeLine := by
      rw [rv2.length, h1]
      exact hL
    exact ⟨.ref _, upd H (s.heap.objs.size + 1) (.lst ys), I.laid (t' := s.toks) (fun _ _ => PyProof.Rows.sortedAll_old) (Nat.le_succ _) ⟨hlen, out, ep, rv2, by simpa using he'⟩, rfl, q _ ys (I.hok.fresh (Nat.le_succ _)) hy⟩
end

/-! ### sorted(d) -/
section
open PySem.W
variable {prog : Program} {w : World} {A : Around} {E : Value → Shared → Prop} {s : Shared} {o : Obj} {es : Array DictEntry} {ep : Nat} {d : Addr}
theorem wk_collectD {R : List Value → Shared → Prop} (lo : (d == sysModules) = false) (hh : A.handled = none) (ho : s.heap.get? d = some o) (hx : o.ExactDict) (hd : o.data = .dict es ep) (hn : es.size ≤ sizeLine)
    (h : ∀ (h' : Heap) (tk : Nat) (acc : Array Value), (∀ b o, s.heap.get? b = some o → h'.get? b = some o) → s.heap.objs.size < h'.objs.size → ItemsOf (fun i v => ∃ en : DictEntry, es[i]? = some en ∧ v = en.key) acc es.size → R acc.toList { s with heap := h', toks := tk }) :
    wpAny (model prog w) A (collect (.ref d)) R E s := by
  have hdl : d < s.heap.objs.size := Heap.lt_size ho
  unfold collect
  refine wpAny_bind (wpAny_runValue (codeAny_builtin PyProof.Rows.entry_proto_collect' ?_))
  rw [Around.under_plainId PySem.F.plain_proto_collect _]
  show wpAny _ A.in1 (newList [] >>= fun l => again (.builtin "list.__iadd__" ⟨[l, .ref d], []⟩)) _ _ s
  refine wpAny_bind (wpAny_newObj_type ?_)
  refine wpAny_pure ⟨plainId_quiet PySem.F.plain_list_iadd _, codeAny_builtin PyProof.Rows.entry_list_iadd' ?_⟩
  rw [Around.under_plainId PySem.F.plain_list_iadd _]
  have hS₁ : (s.heap.push { cls := .type "list", data := .seq ([] : List Value).toArray }).get? s.heap.objs.size = some { cls := .type "list", data := .seq #[] } := Heap.get?_push_size _ rfl
  show wpAny _ A.in1 (Builtin.List.listExtendWith (.ref s.heap.objs.size) (.ref d) (.ref s.heap.objs.size)) _ _ _
  have key := kdl_extend (prog := prog) (w := w) (A := A) (s := { s with heap := s.heap.push { cls := .type "list", data := .seq ([] : List Value).toArray } }) (kdl_raw lo hx hd)
    (R := fun (q : Result) (s' : Shared) => ∃ (h' : Heap) (tk : Nat) (acc' : Array Value) (c' : Nat), q = .ok (.ret (.ref s.heap.objs.size)) ∧ s' = { s with heap := h', toks := tk } ∧
      (∀ b o, s.heap.get? b = some o → h'.get? b = some o) ∧ h'.get? s.heap.objs.size = some { cls := .type "list", dict := none, data := .seq acc' c', slots := #[] } ∧ ItemsOf (fun i v => ∃ en : DictEntry, es[i]? = some en ∧ v = en.key) acc' es.size)
    hh (Heap.get?_push_of_some _ ho) s.heap.objs.size (Nat.ne_of_gt hdl) (Nat.ne_of_gt hdl) (.ref s.heap.objs.size) 0 hS₁
    (fun h' tk acc' c' hk hS' hI => ⟨h', tk, acc', c', rfl, rfl, fun b o e => hk b o (Nat.ne_of_lt (Heap.lt_size e)) (Heap.get?_push_of_some _ e), hS', hI⟩) hn
  refine wpAny_mono key (fun fin s' x => ?_) fun e s' x => ?_
  · cases fin with
    | done f =>
      obtain ⟨h', tk, acc', c', e, rfl, hk, hS', hI⟩ := x
      cases e
      show wpAny _ A (load s.heap.objs.size >>= _) _ _ _
      refine wpAny_bind (wpAny_load hS' ?_)
      refine wpAny_pure ?_
      exact h h' tk acc' hk (Heap.lt_size hS') hI
    | again c₁ =>
      refine ⟨x.1, codeAny_mono x.2 fun q s₂ y => ?_⟩
      obtain ⟨h', tk, acc', c', rfl, rfl, hk, hS', hI⟩ := y
      show wpAny _ A (load s.heap.objs.size >>= _) _ _ _
      refine wpAny_bind (wpAny_load hS' ?_)
      refine wpAny_pure ?_
      exact h h' tk acc' hk (Heap.lt_size hS') hI
  · obtain ⟨_, _, _, _, e', _⟩ := x
    cases e'
end

def kI (k : List Int) : List L2.Key := k.map Sum.inl
theorem kI_inj : ∀ {a b : List Int}, kI a = kI b → a = b
  | [], [], _ => rfl
  | [], _ :: _, h => by cases h
  | _ :: _, [], h => by cases h
  | x :: a, y :: b, h => by
    have h1 : (Sum.inl x : L2.Key) = Sum.inl y := (List.cons.inj h).1
    have h2 := kI_inj (List.cons.inj h).2
    cases h1
    rw [h2]
theorem kI_kV (k : List Int) : (kI k).map kV = k.map V.int := by
  unfold kI
  rw [List.map_map]
  rfl
theorem rp_ints {H : Hp} : ∀ l : List Int, RpA H (l.map V.int) (zD l)
  | [] => .nil
  | i :: l => .cons (.int i) (rp_ints l)
theorem reads_ints {h : Heap} : ∀ {l : List Int} {vs : List Value} {as : List Addr}, ReadsAll h vs (zD l) as → as = []
  | [], _, _, r => by
    have r' : ReadsAll h _ [] _ := r
    cases r'
    rfl
  | i :: l, _, _, r => by
    have r' : ReadsAll h _ (.int i :: zD l) _ := r
    cases r' with
    | cons h1 h2 =>
      cases h1
      rw [reads_ints h2]
      rfl
theorem reads_key {h : Heap} {l : List Int} {v : Value} {as : List Addr} (r : Reads h v (kD l) as) : as = [] := by
  have r' : Reads h v (.tuple (zD l)) as := r
  cases r' with
  | tuple h1 h2 h3 h4 => exact reads_ints h4
theorem depth_key (l : List Int) : (kD l).depth ≤ 8 := by
  have : ∀ l : List Int, PyData.depthAll (zD l) = 0 := PySem.W.depth_ints
  unfold kD
  rw [PyData.depth, this]
  omega
theorem keys_srt {n : Nat} {ks : List (List Int)} (hn : 1 ≤ n) (h : ∀ k ∈ ks, k.length = n) (hl : ks.length ≤ 100000) : Srt (ks.map kD) := by
  refine ⟨?_, .inl ?_, by rw [List.length_map]; exact hl, ?_⟩
  · intro d hd d' hd'
    obtain ⟨k, hk, rfl⟩ := List.mem_map.mp hd
    obtain ⟨k', hk', rfl⟩ := List.mem_map.mp hd'
    have key : ∀ a b : List Int, a.length = b.length → PySem.W.alikeAll (zD a) (zD b) = true := by
      intro a
      induction a with
      | nil =>
        intro b hb
        cases b with
        | nil => exact PySem.W.alike_ints [] []
        | cons y b => cases hb
      | cons x a ih =>
        intro b hb
        cases b with
        | nil => cases hb
        | cons y b =>
          show PySem.W.alikeAll (.int x :: zD a) (.int y :: zD b) = true
          rw [PySem.W.alikeAll, ih b (by simpa using hb)]
          simp [PySem.W.alike]
    show PySem.W.alike (.tuple (zD k)) (.tuple (zD k')) = true
    rw [PySem.W.alike]
    exact key k k' (by rw [h k hk, h k' hk'])
  · intro d hd
    obtain ⟨k, hk, rfl⟩ := List.mem_map.mp hd
    have := h k hk
    cases k with
    | nil =>
      simp at this
      omega
    | cons x k => exact ⟨.int x, zD k, rfl⟩
  · intro d hd
    obtain ⟨k, hk, rfl⟩ := List.mem_map.mp hd
    exact depth_key k
section
variable {X : Cx}
theorem keys_std {H : Hp} : ∀ {kvs : List (List L2.Key × V)} {xs : List (List L2.Key × Addr × Value)} {ks : List (List Int)}, KT H kvs xs → kvs.map (·.1) = ks.map kI → EachIs (Std H) (xs.map fun x => Value.ref x.2.1) (ks.map kD)
  | [], _, ks, .nil, e => by
    cases ks with
    | nil => exact .nil
    | cons k ks => cases e
  | p :: kvs, _, ks, .cons h t, e => by
    cases ks with
    | nil => cases e
    | cons k ks =>
      have e1 : p.1 = kI k := (List.cons.inj e).1
      refine .cons ⟨.ref _, rfl, ?_⟩ (keys_std t (List.cons.inj e).2)
      have h2 := h.2.1
      rw [e1, kI_kV] at h2
      exact .tup h2 (rp_ints k)
theorem cr_srtD (hc : X.calm = true) (hu : X.A.units + 64 < cLine) : CallR X (.builtin "sorted") (fun vs H Q => ∃ (d : Addr) (kvs : List (List L2.Key × V)) (ks : List (List Int)), vs = [.ref d] ∧ Rd H d (.dT kvs) ∧ kvs.map (·.1) = ks.map kI ∧ Srt (ks.map kD) ∧ ∀ p ys, H p = none → RpA H ys (sortD (ks.map kD)) → Q (.ref p) (upd H p (.lst ys))) := by
  intro pins s σ H vs us Q I r h
  obtain ⟨d, kvs, ks, rfl, hd, hk, S, q⟩ := h
  rw [Vals.ref1 r]
  obtain ⟨z, hs, xs, pr, o, es, ep, ho, hx, hdt, he, hn⟩ := (show ObjOk X.prog X.w H s.heap d (.dT kvs) from hd.ok I.hok)
  have l1 : es.size = xs.length := size_of_entries he
  have l2 : kvs.length = xs.length := Paired.length pr
  have hid : (ks.map kD).map (fun d : PyData => d) = ks.map kD := List.map_id _
  have hL : (ks.map kD).length ≤ sizeLine := Nat.le_trans S.len (by decide)
  have l3 : ks.length = xs.length := by
    rw [← l2, ← List.length_map (f := (·.1)) (as := kvs), hk, List.length_map]
  refine PySem.Calls.call_function_entry PyProof.Rows.kind_sorted PyProof.Rows.plain_sorted PyProof.Rows.entry_sorted (PyProof.Rows.args_sorted1 _) ?_
  unfold Builtin.«sorted»
  refine wpAny_bind (m := checkCount "sorted" 1 1 _) (wpAny_pure ?_)
  refine wpAny_bind (wk_collectD hs (I.ok.hd hc) ho hx hdt (by omega) fun h' tk acc kp hlt it => ?_)
  have ea : acc.toList = xs.map fun x => Value.ref x.2.1 := by
    have hl : acc.toList.length = xs.length := by rw [Array.length_toList, it.1]; exact l1
    apply List.ext_getElem?
    intro j
    rw [List.getElem?_map]
    cases hj : acc.toList[j]? with
    | none =>
      have h1 := List.getElem?_eq_none_iff.mp hj
      rw [List.getElem?_eq_none (by omega)]
      rfl
    | some v =>
      obtain ⟨en, hen, hv⟩ := it.2 j v (by rw [← Array.getElem?_toList]; exact hj)
      have qe := entry_at he j
      rw [hen] at qe
      cases hb : xs[j]? with
      | none =>
        rw [hb] at qe
        cases qe
      | some b =>
        rw [hb] at qe
        have e2 : en = entryOfKey (tupleKind (mixKind X.prog X.w)) b := Option.some.inj qe
        rw [hv, e2]
        rfl
  have ee : EachIs (Std H) acc.toList (ks.map kD) := by
    rw [ea]
    exact keys_std pr hk
  have al : acc.toList.length = ks.length := by
    rw [ea, List.length_map, l3]
  refine wpAny_bind (wpAny_newList ?_ (by rw [al]; rw [List.length_map] at hL; exact hL))
  have hob : (h'.push { cls := .type "list", data := .seq acc.toList.toArray }).get? h'.objs.size = some (seqObj "list" acc.toList.toArray 0) := Heap.get?_push_size _ rfl
  have I2 : Inv X pins σ H { s with heap := h', toks := tk } := I.kept (t' := tk) kp
  have old : ∀ b ob, h'.get? b = some ob → (h'.push { cls := .type "list", data := .seq acc.toList.toArray }).get? b = some ob := fun b ob e => Heap.get?_push_of_some _ e
  refine wpAny_bind (wpAny_holding (wpAny_mono (PySem.W.list_sort_data (s := { s with heap := h'.push { cls := .type "list", data := .seq acc.toList.toArray }, toks := tk }) (R := Std H) (enc := fun d => d) (Q := fun _ s' => ∃ out, EachIs (Std H) out (sortD (ks.map kD)) ∧ out.length = ks.length ∧ s' = { s with heap := sortedHeap (h'.push { cls := .type "list", data := .seq acc.toList.toArray }) h'.objs.size acc.toList (List.toArray out), toks := tk }) (E := X.xe) hob ee (each_mem_reads ee fun v d hd h => ?_) (by rw [hid]; exact S.alike) (by rw [hid]; exact S.sortable) hL (fun d hd => ?_) fun out h1 h2 => ⟨out, h2, by rw [h1, List.length_map], rfl⟩) (fun _ s' x => ?_) fun _ _ e => e))
  · obtain ⟨as, hr⟩ := std_reads I2 h
    obtain ⟨k, _, rfl⟩ := List.mem_map.mp hd
    have e0 := reads_key hr
    subst e0
    exact ⟨[], PyProof.Rows.Reads.keeps old hr, fun z => nomatch z⟩
  · have := S.deep d hd
    show X.A.units + 1 + 1 + d.depth < cLine
    omega
  · obtain ⟨out, h2, h1, rfl⟩ := x
    obtain ⟨ys, rv2, hy⟩ := of_std h2
    obtain ⟨ep', he'⟩ := PyProof.Rows.sortedHeap_at (vs := acc.toList) (out := out.toArray) hob
    have hlen : ys.length ≤ sizeLine := by
      rw [rv2.length, h1]
      rw [List.length_map] at hL
      exact hL
    have hge : s.heap.objs.size ≤ h'.objs.size := Nat.le_of_lt hlt
    refine wpAny_pure ⟨_, rfl, .ref h'.objs.size, upd H h'.objs.size (.lst ys), I.laid (t' := tk) (fun b ob e => ?_) hge ⟨hlen, out, ep', rv2, by simpa using he'⟩, rfl, q _ ys (I.hok.fresh hge) hy⟩
    rw [PyProof.Rows.sortedHeap_old (Nat.ne_of_lt (Heap.lt_size (kp b ob e))) (Heap.lt_size (old b ob (kp b ob e)))]
    exact old b ob (kp b ob e)
end
end WK
/-! WKDic -/
set_option Elab.async false
set_option linter.all false
set_option maxRecDepth 100000
set_option maxHeartbeats 1000000
/-! dicts whose keys are keys (tuples of ints). -/
namespace WK
open PySem PySem.Spec PyProof.Rows L2
def dkv (kvs : List (List Int × V)) : List (List L2.Key × V) := kvs.map fun p => (kI p.1, p.2)
def getI (kvs : List (List Int × V)) (k : List Int) : Option V := (kvs.find? fun p => decide (p.1 = k)).map (·.2)
theorem valV_dkv (k : List Int) : ∀ kvs : List (List Int × V), valV (dkv kvs) (kI k) = getI kvs k
  | [] => rfl
  | p :: kvs => by
    have ih := valV_dkv k kvs
    unfold valV getI dkv at ih ⊢
    rw [List.map_cons, List.find?_cons, List.find?_cons]
    by_cases e : p.1 = k
    · rw [show decide (kI p.1 = kI k) = true from decide_eq_true (by rw [e]), show decide (p.1 = k) = true from decide_eq_true e]
      rfl
    · rw [show decide (kI p.1 = kI k) = false from decide_eq_false fun z => e (kI_inj z), show decide (p.1 = k) = false from decide_eq_false e]
      exact ih
theorem getI_none {kvs : List (List Int × V)} {k : List Int} : getI kvs k = none ↔ k ∉ kvs.map (·.1) := by
  unfold getI
  rw [Option.map_eq_none_iff, List.find?_eq_none]
  constructor
  · intro h z
    obtain ⟨p, hp, e⟩ := List.mem_map.mp z
    exact h p hp (decide_eq_true e)
  · intro h p hp e
    exact h (List.mem_map.mpr ⟨p, hp, of_decide_eq_true e⟩)
theorem getI_some {kvs : List (List Int × V)} {k : List Int} {v : V} (h : getI kvs k = some v) : (k, v) ∈ kvs := by
  unfold getI at h
  obtain ⟨p, hp, e⟩ := Option.map_eq_some_iff.mp h
  have h1 := List.mem_of_find?_eq_some hp
  have h2 : p.1 = k := of_decide_eq_true (p := p.1 = k) (List.find?_some (p := fun p : List Int × V => decide (p.1 = k)) hp)
  rw [← e, ← h2]
  exact h1
theorem getI_mem : ∀ {kvs : List (List Int × V)} {k : List Int} {v : V}, (kvs.map (·.1)).Nodup → (k, v) ∈ kvs → getI kvs k = some v
  | [], _, _, _, h => by cases h
  | p :: kvs, k, v, nd, h => by
    rw [List.map_cons, List.nodup_cons] at nd
    unfold getI
    rw [List.find?_cons]
    rcases List.mem_cons.mp h with e | h
    · rw [show decide (p.1 = k) = true from decide_eq_true (by rw [← e])]
      show some p.2 = some v
      rw [← e]
    · have ne : p.1 ≠ k := fun z => nd.1 (List.mem_map.mpr ⟨(k, v), h, z.symm⟩)
      rw [show decide (p.1 = k) = false from decide_eq_false ne]
      exact getI_mem nd.2 h
theorem putK_dkv {kvs : List (List Int × V)} {k : List Int} {v : V} (h : k ∉ kvs.map (·.1)) : putK (dkv kvs) (kI k) v = dkv (kvs ++ [(k, v)]) := by
  unfold putK
  rw [if_neg]
  · unfold dkv
    rw [List.map_append]
    rfl
  · intro z
    obtain ⟨p, hp, e⟩ := List.any_eq_true.mp z
    obtain ⟨q, hq, rfl⟩ := List.mem_map.mp hp
    exact h (List.mem_map.mpr ⟨q, hq, kI_inj (of_decide_eq_true e)⟩)
theorem rp_key {H : Hp} {v : V} {k : List Int} (r : Rp H v (kD k)) : ∃ b, v = .ref b ∧ H b = some (.tup ((kI k).map kV)) := by
  have r' : Rp H v (.tuple (zD k)) := r
  cases r' with
  | @tup a xs _ h q =>
    refine ⟨a, rfl, ?_⟩
    rw [kI_kV, ← numsOf_rp q (numsOf_zD k)]
    exact h
theorem rd_ex {H H' : Hp} {a : Addr} {u : HO} (h : Rd H a u) (e : Ex H H') : Rd H' a u := h.imp (fun z => e _ _ z) fun ⟨o, z⟩ => ⟨o, e _ _ z⟩
theorem dget_of {H : Hp} {a : Addr} {v : V} {k : List Int} {kvs : List (List Int × V)} (h : Rd H a (.dT (dkv kvs))) (r : Rp H v (kD k)) : DGet H a v (getI kvs k) := by
  obtain ⟨b, e, hb⟩ := rp_key r
  exact .inr ⟨dkv kvs, kI k, b, h, e, hb, (valV_dkv k kvs).symm⟩
/-- some dict with these keys and values -/
structure EvDc (X : Cx) (e : Expr) (env : Nv) (H : Hp) (kvs : List (List Int × V)) : Prop where
  run : ∀ σ H1, Ex H H1 → NvOk X H1 σ env → ∀ Q : VK, (∀ a H2, Ex H1 H2 → Rd H2 a (.dT (dkv kvs)) → Q (.ref a) H2) → wE X e σ H1 Q
section
variable {X : Cx} {k : Nat} {e a b c o i it tg elt : Expr} {es ifs : List Expr} {env env' env1 : Nv} {H : Hp} {D : Ends} {d x y : PyData} {ds : List PyData} {pos p pos' : Pos} {sc scope : Scope} {rest body : List Stmt} {l : Addr} {kvs kvs2 : List (List Int × V)} {key : List Int} {v : V}
theorem dc_var (h : EvV X e env H (.ref l)) (hr : Rd H l (.dT (dkv kvs))) : EvDc X e env H kvs := ⟨fun σ H1 e0 ok Q q => h.run σ H1 e0 ok _ fun H2 e2 => q l H2 e2 (rd_ex hr (e0.trans e2))⟩
theorem ed_din (A : Hs X k) (ha : EvD X a env H (kD key)) (hb : EvDc X b env H kvs) (hm : behindInMarks .In b = false := by rfl) : EvD X (.Compare a [.In] [b] pos) env H (.bool (getI kvs key).isSome) := ⟨fun σ H1 e0 ok Q q =>
  ⟨_, pe_cmp (pc_din A.units1 pe_w pe_w) hm, ha.run σ H1 e0 ok _ fun v H2 e2 r2 => hb.run σ H2 (e0.trans e2) (ok.mono e2.t) _ fun a H3 e3 hr => ⟨a, _, rfl, dget_of hr (r2.mono e3.t), q _ H3 (e2.trans e3) (.bl _)⟩⟩⟩
theorem et_din (A : Hs X k) (ha : EvD X a env H (kD key)) (hb : EvDc X b env H kvs) (hm : behindInMarks .In b = false := by rfl) : EvT X (.Compare a [.In] [b] pos) env H (getI kvs key).isSome := ⟨fun σ H1 e0 ok Q q =>
  ⟨_, pt_cmp (pc_din A.units1 pe_w pe_w) hm, ha.run σ H1 e0 ok _ fun v H2 e2 r2 => hb.run σ H2 (e0.trans e2) (ok.mono e2.t) _ fun a H3 e3 hr => ⟨a, _, rfl, dget_of hr (r2.mono e3.t), by
    refine ⟨_, rfl, q H3 (e2.trans e3)⟩⟩⟩⟩
theorem ev_dget (A : Hs X k) (ha : EvDc X a env H kvs) (hb : EvD X b env H (kD key)) (hv : getI kvs key = some v) (hs : NoSl b := by intro _ _; rfl) : EvV X (.Subscript a b pos) env H v := ⟨fun σ H1 e0 ok Q q =>
  ⟨_, pe_dget A.units1 pe_w pe_w hs, ha.run σ H1 e0 ok _ fun a H2 e2 hr => hb.run σ H2 (e0.trans e2) (ok.mono e2.t) _ fun u H3 e3 r3 => ⟨a, v, rfl, by rw [← hv]; exact dget_of (rd_ex hr e3) r3, q H3 (e2.trans e3)⟩⟩⟩
theorem ed_dget (A : Hs X k) (ha : EvDc X a env H kvs) (hb : EvD X b env H (kD key)) (hv : getI kvs key = some v) (hr : Rp H v d) (hs : NoSl b := by intro _ _; rfl) : EvD X (.Subscript a b pos) env H d := ⟨fun σ H1 e0 ok Q q => (ev_dget A ha hb hv hs).run σ H1 e0 ok Q fun H2 e2 => q v H2 e2 (hr.mono (e0.trans e2).t)⟩
/-- o.get(e, {}) -/
theorem dc_get2 {ap cp p2 : Pos} (A : Hs X k) (ho : EvDc X o env H kvs) (he : EvD X e env H (kD key)) (h : (∃ b, getI kvs key = some (.ref b) ∧ Rd H b (.dT (dkv kvs2))) ∨ (getI kvs key = none ∧ kvs2 = []))
    (m : M2 X o "get" ap e (.Dict [] [] p2) cp) : EvDc X (.Call (.Attribute o "get" ap) [e, .Dict [] [] p2] [] cp) env H kvs2 := ⟨fun σ H1 e0 ok Q q => by
  refine ⟨_, pe_dget2 A.units1 pe_w pe_w pe_dnewT m, ho.run σ H1 e0 ok _ fun a H2 e2 hr => ⟨a, rfl, .inr ⟨_, hr⟩, he.run σ H2 (e0.trans e2) (ok.mono e2.t) _ fun y H3 e3 r3 => fun p hp => ?_⟩⟩
  have ex : Ex H3 (upd H3 p (.dT [])) := Ex.new hp
  refine ⟨_, dget_of (rd_ex (rd_ex hr e3) ex) (r3.mono ex.t), ?_⟩
  rcases h with ⟨b, h1, h2⟩ | ⟨h1, h2⟩
  · rw [h1]
    exact q b _ ((e2.trans e3).trans ex) (rd_ex h2 (((e0.trans e2).trans e3).trans ex))
  · rw [h1]
    subst h2
    exact q p _ ((e2.trans e3).trans ex) (.inl upd_same)⟩
/-- x = {} -/
theorem go_setD {j : Nat} {n : Str} {p' : Pos} {nv : Addr → Nv} (A : Hs X k) (hp : ∀ a, Put env j n (.v (.ref a)) (nv a)) (hl : LocN X n) (q : ∀ a H1, H a = none → Ex H H1 → H1 a = some (.dT (dkv [])) → Go X rest (nv a) H1 D) :
    Go X (.Assign [.Name n p'] (.Dict [] [] p) pos :: rest) env H D := ⟨fun σ H1 e0 ok => by
  refine ⟨_, pss_cons (ps_set A.nd (by rw [ok.names]; exact (hp 0).name.1) hl.loc pe_dnewT rfl hl.fn) pb_w, fun a ha => ?_⟩
  have ex : Ex H1 (upd H1 a (.dT [])) := Ex.new ha
  exact (q a _ (e0.back ha) (e0.trans ex) upd_same).run _ _ (Ex.refl _) ((ok.mono ex.t).put (hp a) rfl hl.vis)⟩
/-- d[key] = value, the key a new one -/
theorem go_dput (A : Hs X k) (ho : EvV X o env H (.ref l)) (hd : H l = some (.dT (dkv kvs))) (hi : EvD X i env H (kD key)) (hv : EvD X e env H d) (hk : key ∉ kvs.map (·.1)) (hn : kvs.length ≤ 100000)
    (q : ∀ H' v, ExL l H H' → Rp H' v d → H' l = some (.dT (dkv (kvs ++ [(key, v)]))) → Go X rest env H' D) (hs : swapsWith e (some (.Subscript o i pos')) pos.line X.env = pure false := by rfl) :
    Go X (.Assign [.Subscript o i pos'] e pos :: rest) env H D := ⟨fun σ H1 e0 ok => by
  refine ⟨_, pss_cons (ps_dput A.units1 pe_w pe_w pe_w hs) pb_w, hv.run σ H1 e0 ok _ fun v H2 e2 r2 => ho.run σ H2 (e0.trans e2) (ok.mono e2.t) _ fun H3 e3 => hi.run σ H3 ((e0.trans e2).trans e3) ((ok.mono e2.t).mono e3.t) _ fun y H4 e4 r4 => ?_⟩
  have ex := ((e0.trans e2).trans e3).trans e4
  have h4 := ex _ _ hd
  obtain ⟨b, eb, hb⟩ := rp_key r4
  have t : TLe H4 (upd H4 l (.dT (dkv (kvs ++ [(key, v)])))) := TLe.upd fun xs z => by
    rw [h4] at z
    cases z
  refine ⟨l, upd H4 l (.dT (dkv (kvs ++ [(key, v)]))), rfl, ?_, ?_⟩
  · rw [eb, ← putK_dkv hk]
    exact DPut.t h4 hb (Nat.lt_of_le_of_lt (by unfold dkv; rw [List.length_map]; exact hn) (by decide))
  · refine (q _ v (fun b o nb z => ?_) (((r2.mono e3.t).mono e4.t).mono t) upd_same).run σ _ (Ex.refl _) ((((ok.mono e2.t).mono e3.t).mono e4.t).mono t)
    rw [upd_ne nb]
    exact ex _ _ z⟩
theorem pk_x {H2 H' : Hp} {u : HO} {o own : List Addr} (hl : H l = some u) (hu : ∀ xs, u ≠ .tup xs) (e : Ex H H2) (hw : ∀ b ∈ o, (H b = none ∨ b ∈ own) ∧ ∃ u, H2 b = some u) (ho : ∀ b ∈ own, b ≠ l) (x : ExL l H2 H') : TLe H2 H' ∧ ∀ b ∈ o, H' b = H2 b := by
  refine ⟨x.t fun xs z => ?_, fun b hb => ?_⟩
  · rw [e _ _ hl] at z
    exact hu xs (Option.some.inj z)
  obtain ⟨h1, w, hw⟩ := hw b hb
  have hn : b ≠ l := by
    intro z
    rcases h1 with h1 | h1
    · rw [z, hl] at h1
      cases h1
    · exact ho b h1 z
  rw [hw]
  exact x b _ hn hw
/-! ### walked by keys, locked -/
theorem dkv_get {i : Nat} {q : List L2.Key × V} (h : (dkv kvs)[i]? = some q) : ∃ p, kvs[i]? = some p ∧ q = (kI p.1, p.2) := by
  unfold dkv at h
  rw [List.getElem?_map] at h
  obtain ⟨p, hp, e⟩ := Option.map_eq_some_iff.mp h
  exact ⟨p, hp, e.symm⟩
theorem wi_keysD {od : Obj} (h : EvV X it env H (.ref l)) (hl : H l = some (.frz od (.dT (dkv kvs)))) (σ : L2.St) (H1 : Hp) (e0 : Ex H H1) (ok : NvOk X H1 σ env) (R : It → Hp → Prop) (q : ∀ J H2, Ex H1 H2 → Iter J H2 (kvs.map fun p => kD p.1) [l] → R J H2) : wI X tg it σ H1 R := ⟨_, pi_keys pe_w, h.run σ H1 e0 ok _ fun H2 e2 => by
  have hl2 := (e0.trans e2) _ _ hl
  refine ⟨l, od, rfl, .inr ⟨_, hl2, q _ H2 e2 ⟨?_⟩⟩⟩
  have hlen : (kvs.map fun p => kD p.1).length = (dkv kvs).length := by unfold dkv; rw [List.length_map, List.length_map]
  rw [hlen]
  refine walk_mono walk_keysT (fun H' g => (g.2 l List.mem_cons_self).trans hl2) fun i H' x H'' hi g y => ?_
  obtain ⟨e, k', v', q', h1, h2, h3⟩ := y
  obtain ⟨p, hp, ep⟩ := dkv_get h1
  cases ep
  subst e h2
  rw [kI_kV] at h3
  refine ⟨Ex.refl _, kD p.1, ?_, .tup h3 (rp_ints p.1)⟩
  rw [List.getElem?_map, hp]
  rfl⟩
theorem ei_keysD {od : Obj} (h : EvV X it env H (.ref l)) (hl : H l = some (.frz od (.dT (dkv kvs)))) : EvI X tg it env H (kvs.map fun p => kD p.1) [l] := ⟨fun σ H1 e0 ok R q => wi_keysD h hl σ H1 e0 ok R fun J H2 e2 I => q J H2 [l] e2 (fun b hb => ⟨.inr hb, .frz od (.dT (dkv kvs)), by
  have e : b = l := by simpa using hb
  rw [e]
  exact (e0.trans e2) _ _ hl⟩) I⟩
/-- H with what stands at l locked -/
def lockH (H : Hp) (l : Addr) (od : Obj) (u : HO) : Hp := upd H l (.frz od u)
theorem lock_t {od : Obj} {u : HO} (h : H l = some u) (hn : ∀ xs, u ≠ .tup xs) : TLe H (lockH H l od u) := TLe.upd fun xs z => by
  rw [h] at z
  exact hn xs (Option.some.inj z)
theorem lock_ex {od : Obj} {u : HO} {H1 : Hp} (e : Ex H H1) : Ex (lockH H l od u) (lockH H1 l od u) := fun b o z => by
  unfold lockH at z ⊢
  by_cases hb : b = l
  · rw [hb, upd_same] at z ⊢
    exact z
  · rw [upd_ne hb] at z ⊢
    exact e b o z
theorem unlock_ex {od : Obj} {u : HO} {H1 H2 : Hp} (h : H1 l = some u) (e : Ex (lockH H1 l od u) H2) : Ex H1 (upd H2 l u) := fun b o z => by
  by_cases hb : b = l
  · rw [hb] at z ⊢
    rw [upd_same]
    rw [h] at z
    exact z
  · rw [upd_ne hb]
    exact e b o (by unfold lockH; rw [upd_ne hb]; exact z)
theorem unlock_t {u : HO} {H2 : Hp} {od : Obj} (h : H2 l = some (.frz od u)) : TLe H2 (upd H2 l u) := TLe.upd fun xs z => by
  rw [h] at z
  cases z
/-- a comprehension over the dict at l -/
theorem el_lock (h : H l = some (.dT (dkv kvs))) (he : ∀ od, EvL X e env (lockH H l od (.dT (dkv kvs))) ds) : EvL X e env H ds := ⟨fun σ H1 e0 ok Q q => by
  have h1 := e0 _ _ h
  refine ⟨_, pe_lock pe_w, l, .dT (dkv kvs), h1, True.intro, fun od => ?_⟩
  have t1 : TLe H1 (lockH H1 l od (.dT (dkv kvs))) := lock_t h1 fun xs z => nomatch z
  refine (he od).run σ _ (lock_ex e0) (ok.mono t1) _ fun p H2 hp e2 hl => ?_
  have h2 : H2 l = some (.frz od (.dT (dkv kvs))) := e2 _ _ upd_same
  have npl : p ≠ l := by
    intro z
    unfold lockH at hp
    rw [z, upd_same] at hp
    cases hp
  refine ⟨h2, q p _ ?_ (unlock_ex h1 e2) ?_⟩
  · unfold lockH at hp
    rw [upd_ne npl] at hp
    exact hp
  · obtain ⟨vs, k1, k2⟩ := hl
    exact ⟨vs, by rw [upd_ne npl]; exact k1, k2.mono (unlock_t h2)⟩⟩
/-- for x in d: the dict at l is locked meanwhile; G: the heap when the walk begins; P by the turn, the names and the heap -/
theorem go_forD (P : Hp → Nat → Nv → Hp → Prop) (A : Hs X k) (hi : ∀ H', EvV X it env H' (.ref l)) (h : H l = some (.dT (dkv kvs))) (h0 : ∀ G od, Ex (lockH H l od (.dT (dkv kvs))) G → P G 0 env G)
    (pk : ∀ G od, Ex (lockH H l od (.dT (dkv kvs))) G → ∀ i nv H', P G i nv H' → TLe G H' ∧ H' l = G l)
    (turn : ∀ G od i p nv H', Ex (lockH H l od (.dT (dkv kvs))) G → kvs[i]? = some p → P G i nv H' → ∃ w nv2, Tgt tg (kD p.1) nv w nv2 ∧ (∀ q ∈ w, LocN X q.1) ∧ ∀ H3 D', Ex H' H3 → (∀ σ H4 nv3, NvOk X H4 σ nv3 → P G (i + 1) nv3 H4 → D'.nx σ H4) → Go X body nv2 H3 D')
    (done : ∀ G od nv H', Ex (lockH H l od (.dT (dkv kvs))) G → P G kvs.length nv H' → Go X rest nv (upd H' l (.dT (dkv kvs))) D) (hs : ∀ x, foldedSetIterable it X.env x = pure x := by intro _; rfl) : Go X (.For tg it body [] pos :: rest) env H D := ⟨fun σ H1 e0 ok => by
  refine ⟨_, pss_cons (ps_lock (ps_for (by rw [A.xe]; exact PassesOwn.never) A.calm pi_w pg_w pb_w hs)) pb_w, l, .dT (dkv kvs), e0 _ _ h, True.intro, fun od => ?_⟩
  have t1 : TLe H1 (lockH H1 l od (.dT (dkv kvs))) := lock_t (e0 _ _ h) fun xs z => nomatch z
  refine wi_keysD (H := lockH H l od (.dT (dkv kvs))) (hi _) upd_same σ _ (lock_ex e0) (ok.mono t1) _ fun J H2 e2 I => ?_
  have eG : Ex (lockH H l od (.dT (dkv kvs))) H2 := (lock_ex e0).trans e2
  have hG : H2 l = some (.frz od (.dT (dkv kvs))) := eG _ _ upd_same
  have hlen : (kvs.map fun p => kD p.1).length = kvs.length := List.length_map _
  refine for_it I.walk (fun i σ' H' => ∃ nv, NvOk X H' σ' nv ∧ P H2 i nv H') ⟨env, (ok.mono t1).mono e2.t, h0 H2 od eG⟩ (fun i σ' H' _ ⟨nv, _, q⟩ => ?_) ?_ ?_
  · obtain ⟨k1, k2⟩ := pk H2 od eG i nv H' q
    exact ⟨k1, fun b hb => by
      have e : b = l := by simpa using hb
      rw [e]
      exact k2⟩
  · rintro i x σ' H' H'' hi' ⟨nv, okk, q⟩ ⟨ex, d, hd, r⟩
    rw [List.getElem?_map] at hd
    obtain ⟨p, hp, ed⟩ := Option.map_eq_some_iff.mp hd
    subst ed
    obtain ⟨w, nv2, T, hl, g⟩ := turn H2 od i p nv H' eG hp q
    refine T.w A.calm A.nd (okk.mono ex.t) hl r fun σ3 ok3 _ => Go.run (g H'' _ ex ?_) σ3 H'' (Ex.refl _) ok3
    exact fun σ4 H4 nv3 ok4 p4 => ⟨nv3, ok4, p4⟩
  · rintro σ' H' ⟨nv, okk, q⟩
    rw [hlen] at q
    have hl' := (pk H2 od eG _ nv H' q).2.trans hG
    exact ⟨hl', (done H2 od nv H' eG q).run σ' _ (Ex.refl _) (okk.mono (unlock_t hl'))⟩⟩
end
/-! ### dict(pairs) -/
/-- the pair at p: key and value -/
def PrAt (H : Hp) (p : Addr) (q : List Int × V) : Prop := ∃ b, H p = some (.tup [.ref b, q.2]) ∧ H b = some (.tup ((kI q.1).map kV))
section
variable {X : Cx} {pins : List (Addr × Obj)} {σ : L2.St} {H : Hp} {s : Shared}
theorem prs_of (I : Inv X pins σ H s) : ∀ {ps : List Addr} {kvs : List (List Int × V)}, Paired (PrAt H) ps kvs →
    ∃ xs : List (List L2.Key × Addr × Value), KT H (dkv kvs) xs ∧ xs.length = ps.length ∧ xs.map (·.1) = kvs.map (fun q => kI q.1) ∧ ∀ (j : Nat) (x : List L2.Key × Addr × Value), xs[j]? = some x → ∃ p, ps[j]? = some p ∧ IsTup s.heap p #[.ref x.2.1, x.2.2]
  | _, _, .nil => ⟨[], .nil, rfl, rfl, fun j q e => by simp at e⟩
  | _, _, .cons (a := p) (b := q) h t => by
    obtain ⟨xs, r, hl, hm, hp⟩ := prs_of I t
    obtain ⟨b, h1, h2⟩ := h
    obtain ⟨_, its, rv, ht⟩ := (show ObjOk X.prog X.w H s.heap p (.tup [.ref b, q.2]) from I.hok p _ h1)
    obtain ⟨u, y, ei, ru, ry⟩ := vals2 rv
    subst ei
    cases ru
    refine ⟨(kI q.1, b, y) :: xs, .cons ⟨rfl, h2, ry⟩ r, by rw [List.length_cons, List.length_cons, hl], by rw [List.map_cons, List.map_cons, hm], fun j x e => ?_⟩
    cases j with
    | zero =>
      have e' : (kI q.1, b, y) = x := Option.some.inj e
      subst e'
      exact ⟨p, rfl, ht⟩
    | succ j =>
      obtain ⟨b', e1, e2⟩ := hp j x (by simpa using e)
      exact ⟨b', by simpa using e1, e2⟩
theorem stored_all {κ : Type} [DecidableEq κ] : ∀ (ps xs : List (κ × Addr × Value)), ((xs ++ ps).map (·.1)).Nodup → storedAllH xs ps = xs ++ ps
  | [], xs, _ => (List.append_nil xs).symm
  | p :: ps, xs, nd => by
    have hn : atKey xs p.1 = none := atKey_none_of_get fun j q e => by
      rw [List.map_append, List.nodup_append] at nd
      exact nd.2.2 _ (List.mem_map.mpr ⟨_, List.mem_of_getElem? e, rfl⟩) _ (List.mem_map.mpr ⟨p, List.mem_cons_self, rfl⟩) rfl
    show storedAllH (storedH xs p.1 p.2.1 p.2.2) ps = _
    rw [storedH_new hn, stored_all ps _ (by simpa using nd)]
    simp
theorem is_stay {P : Program} {w : World} {h h' : Heap} {ks : List L2.Key} {a : Addr} (x : (tupleKind (mixKind P w)).is h ks a) (k : ∀ o, h.get? a = some o → h'.get? a = some o) : (tupleKind (mixKind P w)).is h' ks a := by
  obtain ⟨o, its, n, h1, h2⟩ := x
  exact ⟨o, its, n, k _ h1, h2⟩
theorem cr_dictT (hc : X.calm = true) (hu : X.A.units + 64 < cLine) : CallR X (.type "dict") (fun vs H Q => ∃ (l : Addr) (ps : List Addr) (kvs : List (List Int × V)), vs = [.ref l] ∧ SqL X.K H l (ps.map V.ref) ∧ Paired (PrAt H) ps kvs ∧ (kvs.map (·.1)).Nodup ∧ ∀ p, H p = none → Q (.ref p) (upd H p (.dT (dkv kvs)))) := by
  intro pins s σ H vs us Q I r h
  obtain ⟨l, ps, kvs, rfl, hl, hp, nd, q⟩ := h
  rw [Vals.ref1 r]
  obtain ⟨its, rv, pl, hz⟩ := I.list hl
  have ei := refs_at rv
  subst ei
  rw [List.length_map] at hz
  obtain ⟨xs, rel, hlx, hmx, hpx⟩ := prs_of I hp
  obtain ⟨o, n, ho, hc', hd, hdat⟩ := pl
  have ndx : (xs.map (·.1)).Nodup := by
    rw [hmx]
    have e : kvs.map (fun q => kI q.1) = (kvs.map (·.1)).map kI := by rw [List.map_map]; rfl
    rw [e]
    exact List.Pairwise.map kI (fun _ _ ne z => ne (kI_inj z)) nd
  have hkeys : ∀ x ∈ xs, (tupleKind (mixKind X.prog X.w)).is s.heap x.1 x.2.1 := by
    have all : ∀ {A : List (List L2.Key × V)} {B : List (List L2.Key × Addr × Value)}, KT H A B → ∀ x ∈ B, (tupleKind (mixKind X.prog X.w)).is s.heap x.1 x.2.1 := by
      intro A B z
      induction z with
      | nil => intro x hx; cases hx
      | @cons p y _ _ h1 _ ih =>
        intro x hx
        rcases List.mem_cons.mp hx with e | hx
        · rw [e]
          exact key_of I.hok (by rw [← h1.1]; exact h1.2.1)
        · exact ih x hx
    exact all rel
  have ok : PlainSeq "list" s.heap l (ps.map Value.ref).toArray ∧ PairItems s.heap (ps.map Value.ref).toArray (fun j => (ps[j]?).getD 0) (xs.map fun x => (Value.ref x.2.1, x.2.2)) := by
    refine ⟨⟨o, n, ho, hc', hd, hdat⟩, by simp [hlx], fun j k v e => ?_⟩
    rw [List.getElem?_map] at e
    obtain ⟨x, hx, ex⟩ := Option.map_eq_some_iff.mp e
    obtain ⟨p, h1, h2⟩ := hpx j x hx
    cases ex
    refine ⟨by simp [h1], .inl ?_⟩
    show s.heap.IsTuple ((ps[j]?).getD 0) _
    rw [h1]
    obtain ⟨op, k1, k2, nn, k3⟩ := h2
    exact ⟨op, k1, k2, nn, k3⟩
  refine call_dict_pairsH (knd := tupleKind (mixKind X.prog X.w)) (ps := xs) (PairArg.list (prog := X.prog) (w := X.w) l (ps.map Value.ref).toArray (fun j => (ps[j]?).getD 0) (xs.map fun x => (Value.ref x.2.1, x.2.2))) (I.ok.hd hc) (by show X.A.units + 1 + 1 < cLine; omega) ok ⟨by rw [List.length_map], fun i key v e => ?_⟩ (fun h' k x hx => is_stay (hkeys x hx) fun o e => k _ o (Nat.ne_of_lt (Heap.lt_size e)) (by simp) e) (by rw [List.length_map, hlx]; exact hz) fun h' tk hd' k => ?_
  · have e : (xs.map fun x => (Value.ref x.2.1, x.2.2))[i]? = some (key, v) := e
    rw [List.getElem?_map] at e
    obtain ⟨x, hx, ex⟩ := Option.map_eq_some_iff.mp e
    cases ex
    exact ⟨x.1, x.2.1, hx, rfl⟩
  · have kk : ∀ b ob, s.heap.get? b = some ob → h'.get? b = some ob := fun b ob e => k b ob (by simp) e
    rw [stored_all xs [] (by simpa using ndx), List.nil_append] at hd'
    obtain ⟨od, es, ep, g1, g2, g3, g4, g5, g6⟩ := hd'
    have hm : (s.heap.objs.size == sysModules) = false := beq_eq_false_iff_ne.mpr (Nat.ne_of_gt I.big)
    have hfree : H s.heap.objs.size = none := I.hok.fresh (Nat.le_refl _)
    have hlen : (dkv kvs).length ≤ sizeLine := by
      rw [Paired.length rel, hlx]
      exact hz
    refine ⟨.ref s.heap.objs.size, upd H s.heap.objs.size (.dT (dkv kvs)), I.laid (t' := tk) kk (Nat.le_refl _) (show ObjOk X.prog X.w _ _ _ (.dT (dkv kvs)) from ⟨hlen, hm, xs, ?_, od, es, ep, g1, g2, g3, g4, g6⟩), rfl, q _ hfree⟩
    exact Paired.mapP rel fun a b z => ⟨z.1, by rw [upd_ne (ne_of_none z.2.1 hfree)]; exact z.2.1, z.2.2⟩
end
/-- a def's body begun with data -/
theorem go_begin {X : Cx} {b : List Stmt} {vs : List V} {ds : List PyData} {ps more : List Str} {H : Hp} {D : Ends} {sc : Scope} (hs : X.env.scope = sc) (hN : X.N = ps ++ more) (q : RpA H vs ds) (hl : ps.length = ds.length) (hv : ps.all (visB sc) = true) (g : Go X b (nvOf ps ds more) H D) : wB X b D (L2.start (ps ++ more) vs) H := by
  refine g.run _ H (Ex.refl _) ⟨?_, ?_, ?_⟩
  · rw [hN]
    exact nvOf_names hl
  · have := nva_start (more := more) q hl
    unfold L2.start
    rw [List.length_append, q.len, ← hl, Nat.add_sub_cancel_left]
    exact this
  · rw [hs]
    exact nvOf_vis hv
end WK
/-! WKAll -/
set_option Elab.async false
set_option linter.all false
set_option maxRecDepth 100000
set_option maxHeartbeats 1000000
/-! all_against -/
namespace WK
open PySem PySem.Spec PyProof.Rows L2
theorem allKeys_mem : ∀ {n : Nat} {key : List Int}, key ∈ allKeys n ↔ KeyOk n key
  | 0, key => by
    show key ∈ [[]] ↔ _
    constructor
    · intro h
      have e : key = [] := by simpa using h
      rw [e]
      exact ⟨rfl, fun x hx => by cases hx⟩
    · rintro ⟨h, _⟩
      have e : key = [] := List.eq_nil_of_length_eq_zero (by simpa using h)
      rw [e]
      simp
  | n + 1, key => by
    constructor
    · intro h
      obtain ⟨k2, h1, h2⟩ := List.mem_flatMap.mp h
      obtain ⟨i, hi, rfl⟩ := List.mem_map.mp h2
      have hi := List.mem_range.mp hi
      obtain ⟨k3, k4⟩ := allKeys_mem.mp h1
      refine ⟨by rw [List.length_append]; simp only [List.length_cons, List.length_nil]; omega, fun x hx => ?_⟩
      rcases List.mem_append.mp hx with hx | hx
      · exact k4 x hx
      · have e : x = (i : Int) := by simpa using hx
        omega
    · rintro ⟨h1, h2⟩
      have hne : key ≠ [] := by
        intro e
        rw [e] at h1
        simp at h1
        omega
      have e := List.dropLast_concat_getLast hne
      have hl := h2 _ (List.getLast_mem hne)
      refine List.mem_flatMap.mpr ⟨key.dropLast, allKeys_mem.mpr ⟨by rw [List.length_dropLast]; omega, fun x hx => h2 x (List.dropLast_subset _ hx)⟩, List.mem_map.mpr ⟨(key.getLast hne).toNat, List.mem_range.mpr (by omega), ?_⟩⟩
      rw [Int.toNat_of_nonneg hl.1]
      exact e
theorem snoc_inj {a b : List Int} {x y : Int} (h : a ++ [x] = b ++ [y]) : a = b ∧ x = y := by
  have := List.append_inj' h rfl
  exact ⟨this.1, by simpa using this.2⟩
theorem allKeys_nodup : ∀ n : Nat, (allKeys n).Nodup
  | 0 => by simp [allKeys]
  | n + 1 => by
    show ((allKeys n).flatMap fun key => (List.range 7).map fun (h : Nat) => key ++ [(h : Int)]).Nodup
    rw [List.nodup_iff_pairwise_ne, List.pairwise_flatMap]
    refine ⟨fun key _ => ?_, ?_⟩
    · rw [List.pairwise_map]
      refine List.Pairwise.imp (fun {x y} h z => ?_) (List.nodup_iff_pairwise_ne.mp List.nodup_range)
      have := (snoc_inj z).2
      omega
    · refine List.Pairwise.imp (fun {x y} h u hu v hv z => ?_) (List.nodup_iff_pairwise_ne.mp (allKeys_nodup n))
      obtain ⟨i, _, rfl⟩ := List.mem_map.mp hu
      obtain ⟨j, _, rfl⟩ := List.mem_map.mp hv
      exact h (snoc_inj z).1
/-- keys and the tuples of numbers that they hold -/
inductive VsN (H : Hp) : List (List Int × V) → List (List Int × List Int) → Prop
  | nil : VsN H [] []
  | cons {k : List Int} {v : V} {l : List Int} {kvs : List (List Int × V)} {r : List (List Int × List Int)} : Rp H v (.tuple (zD l)) → VsN H kvs r → VsN H ((k, v) :: kvs) ((k, l) :: r)
theorem VsN.mono {H H' : Hp} (t : TLe H H') : ∀ {kvs : List (List Int × V)} {r : List (List Int × List Int)}, VsN H kvs r → VsN H' kvs r
  | _, _, .nil => .nil
  | _, _, .cons h q => .cons (h.mono t) (q.mono t)
theorem VsN.keys {H : Hp} : ∀ {kvs : List (List Int × V)} {r : List (List Int × List Int)}, VsN H kvs r → kvs.map (·.1) = r.map (·.1)
  | _, _, .nil => rfl
  | _, _, .cons _ q => congrArg (_ :: ·) q.keys
theorem VsN.len {H : Hp} : ∀ {kvs : List (List Int × V)} {r : List (List Int × List Int)}, VsN H kvs r → kvs.length = r.length
  | _, _, .nil => rfl
  | _, _, .cons _ q => congrArg Nat.succ q.len
theorem VsN.snoc {H : Hp} {k : List Int} {v : V} {l : List Int} : ∀ {kvs : List (List Int × V)} {r : List (List Int × List Int)}, VsN H kvs r → Rp H v (.tuple (zD l)) → VsN H (kvs ++ [(k, v)]) (r ++ [(k, l)])
  | _, _, .nil, h => .cons h .nil
  | _, _, .cons h q, g => .cons h (q.snoc g)
theorem VsN.get {H : Hp} : ∀ {kvs : List (List Int × V)} {r : List (List Int × List Int)} {k : List Int} {l : List Int}, VsN H kvs r → (r.map (·.1)).Nodup → (k, l) ∈ r → ∃ v, getI kvs k = some v ∧ Rp H v (.tuple (zD l))
  | kvs, r, k, l, h, nd, hm => by
    have key : ∀ {kvs : List (List Int × V)} {r : List (List Int × List Int)}, VsN H kvs r → (k, l) ∈ r → ∃ v, (k, v) ∈ kvs ∧ Rp H v (.tuple (zD l)) := by
      intro kvs r h
      induction h with
      | nil => intro z; cases z
      | @cons k' v' l' kvs r h1 h2 ih =>
        intro z
        rcases List.mem_cons.mp z with e | z
        · cases e
          exact ⟨v', List.mem_cons_self, h1⟩
        · obtain ⟨v, h3, h4⟩ := ih z
          exact ⟨v, List.mem_cons_of_mem _ h3, h4⟩
    obtain ⟨v, h1, h2⟩ := key h hm
    exact ⟨v, getI_mem (by rw [h.keys]; exact nd) h1, h2⟩
/-- it gives a new dict of keys and tuples of numbers -/
def SpN (R : List PyData → List (List Int × List Int) → Prop) : Sp := fun vs H Q _ => ∃ ds r, R ds r ∧ RpA H vs ds ∧ ∀ p H' kvs, H p = none → Ex H H' → H' p = some (.dT (dkv kvs)) → VsN H' kvs r → Q (.ref p) H'
/-- what each of these keys is against -/
def agAll (h : Ho) (hall : Int) (r : List Entry) (ks : List (List Int)) : List (List Int × List Int) := ks.filterMap fun key => (againstFrom h 0 hall key r).map fun l => (key, l)
theorem agAll_keys (h : Ho) (hall : Int) (r : List Entry) : ∀ ks : List (List Int), ((agAll h hall r ks).map (·.1)).Sublist ks
  | [] => .slnil
  | k :: ks => by
    have ih := agAll_keys h hall r ks
    unfold agAll at ih ⊢
    rw [List.filterMap_cons]
    cases againstFrom h 0 hall k r with
    | none => exact .cons _ ih
    | some l => exact .cons_cons _ ih
inductive R_all_against : List PyData → List (List Int × List Int) → Prop
  | mk (h : Ho) (hall : Int) (r : List Entry) (ok : HoOk h) (he : ∀ e ∈ r, EntryOk h e) (hl : r.length ≤ 12) : R_all_against [hoD h, .int hall, recD r] (agAll h hall r (allKeys h.teeth.toNat))
theorem len_all_against : ∀ vs H Q E, SpN R_all_against vs H Q E → vs.length = (["house", "hall", "record"] : List Str).length := by
  rintro vs H Q E ⟨ds, r, h, q, _⟩
  rw [q.len]
  cases h
  rfl
theorem take_snoc {α : Type} {l : List α} {i : Nat} {x : α} (h : l[i]? = some x) : l.take (i + 1) = l.take i ++ [x] := by
  rw [List.take_add_one, h]
  rfl
theorem not_take {α : Type} {l : List α} {i : Nat} {x : α} (nd : l.Nodup) (h : l[i]? = some x) : x ∉ l.take i := by
  have e := take_snoc h
  have h2 : (l.take (i + 1)).Nodup := nd.sublist (List.take_sublist _ _)
  rw [e, List.nodup_append] at h2
  intro z
  exact h2.2.2 _ z _ List.mem_cons_self rfl
theorem sc_all_against : FnScope ((["house", "hall", "record"] : List Str) ++ (["found", "key", "numbers"] : List Str)) ["house", "hall", "record"] (defScope (top 87)) := fnScope_by (by decide +kernel)
instance : HasCal "all_against" 5 ["house", "hall", "record"] (SpN R_all_against) := ⟨fun P w K mg T => by
  refine Cal.mk' T (i := 87) (N := (["house", "hall", "record"] : List Str) ++ (["found", "key", "numbers"] : List Str)) (List.mem_of_getElem? (i := 41) rfl) (by decide +kernel) sc_all_against (fun _ _ _ _ _ _ us hl => match us, hl with | [_, _, _], _ => rfl) len_all_against fun X A hs hN hf vs H Q E h => ?_
  obtain ⟨ds, r0, h, q, hq⟩ := h
  cases h with
  | mk h hall r ok he hl =>
    have g : Go X (defBody (top 87)) (nvOf ["house", "hall", "record"] [hoD h, .int hall, recD r] ["found", "key", "numbers"]) H { nx := fun _ H' => Q .non H', rt := Q } := by
      have t1 := ok.teeth
      have hnd := allKeys_nodup h.teeth.toNat
      have hk7 : (allKeys h.teeth.toNat).length ≤ 343 := by
        rw [allKeys_len]
        have : h.teeth.toNat = 1 ∨ h.teeth.toNat = 2 ∨ h.teeth.toNat = 3 := by omega
        rcases this with e | e | e <;> rw [e] <;> decide
      simp only [nvOf, unM]
      refine go_setD A (fun _ => (.next (.next (.next (.here))))) (locN hf hs (by decide +kernel)) fun a H0 na e0 hd0 => ?_
      refine go_forQ (fun H2 i nv H' => ExL a H2 H' ∧ ∃ s1 s2 kvs, nv = ([("house", .d (hoD h)), ("hall", .d (.int hall)), ("record", .d (recD r)), ("found", .v (.ref a)), ("key", s1), ("numbers", s2)] : Nv) ∧ H' a = some (.dT (dkv kvs)) ∧ VsN H' kvs (agAll h hall r ((allKeys h.teeth.toNat).take i))) A
        (ei_new (el_call A hs (ea_cons (ed_call A hs (ea_cons (ed_ix (ed_var .here hs (by decide +kernel)) ed_int (by first | rfl | assumption | decide +kernel)) ea_nil) (R_whole_box.mk h.teeth t1.1 (by omega))) ea_nil) (R_keys_in.mk h.teeth.toNat (by omega))))
        (fun H2 e2 => ⟨(Ex.refl H2).l, _, _, [], rfl, e2 _ _ hd0, .nil⟩) (fun H2 o e2 ho i nv H' p => pk_x hd0 (fun xs z => nomatch z) e2 ho (fun b hb => nomatch hb) p.1) ?_ ?_
      · rintro H2 i d nv H' e2 hd ⟨xl, s1, s2, kvs, rfl, hda, hvs⟩
        rw [List.getElem?_map] at hd
        cases hx : (allKeys h.teeth.toNat)[i]? with
        | none =>
          rw [hx] at hd
          cases hd
        | some key =>
          rw [hx] at hd
          obtain rfl : kD key = d := by simpa using hd
          have hko : KeyOk h.teeth key := by
            have := allKeys_mem.mp (List.mem_of_getElem? hx)
            rw [Int.toNat_of_nonneg (by omega)] at this
            exact this
          have hnew : key ∉ kvs.map (·.1) := by
            rw [hvs.keys]
            intro z
            exact not_take hnd hx ((agAll_keys h hall r _).subset z)
          have hlen : kvs.length ≤ 100000 := by
            rw [hvs.len]
            have := (agAll_keys h hall r ((allKeys h.teeth.toNat).take i)).length_le
            rw [List.length_map, List.length_take] at this
            omega
          have hspec : agAll h hall r ((allKeys h.teeth.toNat).take (i + 1)) = agAll h hall r ((allKeys h.teeth.toNat).take i) ++ agAll h hall r [key] := by
            rw [take_snoc hx]
            unfold agAll
            rw [List.filterMap_append]
          refine ⟨_, _, .name (.next (.next (.next (.next (.here))))), fun q hq => locN hf hs (by simp at hq; rcases hq with rfl; decide +kernel), fun H3 D' e3 hnx hct hbk hrt => ?_⟩
          refine go_set A (ed_call A hs (ea_cons (ed_var .here hs (by decide +kernel)) (ea_cons (ed_tup (ea_cons (ed_var (.next (.here)) hs (by decide +kernel)) (ea_cons (ed_var (.next (.next (.next (.next (.here))))) hs (by decide +kernel)) ea_nil))) (ea_cons (ed_var (.next (.next (.here))) hs (by decide +kernel)) ea_nil))) (R_against.mk h hall key r ok hko he hl)) (.next (.next (.next (.next (.next (.here)))))) (locN hf hs (by decide +kernel)) ?_
          refine go_when (et_isnt (ed_var (.next (.next (.next (.next (.next (.here)))))) hs (by decide +kernel)) ed_non) (fun ht => ?_) fun ht => ?_
          · cases ea : againstFrom h 0 hall key r with
            | none =>
              rw [ea] at ht
              cases ht
            | some nums =>
              refine go_dput A (ev_var (.next (.next (.next (.here)))) hs (by decide +kernel)) (e3 _ _ hda) (ed_var (.next (.next (.next (.next (.here))))) hs (by decide +kernel)) ((ed_var (.next (.next (.next (.next (.next (.here)))))) hs (by decide +kernel)).is (x := .tuple (zD nums)) rfl) hnew hlen fun H4 v x4 rv h4 => go_nil fun σ H5 e5 ok5 => ⟨_, pss_nil, ?_⟩
              have tl : TLe H3 H4 := x4.t fun xs z => by
                rw [e3 _ _ hda] at z
                cases z
              refine hnx σ H5 _ ok5 ⟨(xl.trans e3.l).trans (x4.trans e5.l), _, _, kvs ++ [(key, v)], rfl, e5 _ _ h4, ?_⟩
              rw [hspec]
              have e6 : agAll h hall r [key] = [(key, nums)] := by
                unfold agAll
                rw [List.filterMap_cons, ea]
                rfl
              rw [e6]
              exact ((((hvs.mono e3.t).mono tl).snoc rv).mono e5.t)
          · have ea : againstFrom h 0 hall key r = none := by
              cases ea : againstFrom h 0 hall key r with
              | none => rfl
              | some nums =>
                rw [ea] at ht
                cases ht
            refine go_nil fun σ H5 e5 ok5 => hnx σ H5 _ ok5 ⟨(xl.trans e3.l).trans e5.l, _, _, kvs, rfl, e5 _ _ (e3 _ _ hda), ?_⟩
            have e6 : agAll h hall r [key] = [] := by
              unfold agAll
              rw [List.filterMap_cons, ea]
              rfl
            rw [hspec, e6, List.append_nil]
            exact (hvs.mono e3.t).mono e5.t
      · rintro H2 nv H' e2 ⟨xl, s1, s2, kvs, rfl, hda, hvs⟩
        refine go_retV (ev_var (.next (.next (.next (.here)))) hs (by decide +kernel)) fun H5 e5 => ?_
        rw [List.length_map, List.take_of_length_le (Nat.le_refl _)] at hvs
        exact hq a H5 kvs na (fun b o z => e5 _ _ (xl _ _ (ne_of_none z na) (e2 _ _ (e0 _ _ z)))) (e5 _ _ hda) (hvs.mono e5.t)
    exact go_begin hs hN q rfl (by decide +kernel) g⟩
end WK
/-! WKFill -/
set_option Elab.async false
set_option linter.all false
set_option maxRecDepth 100000
set_option maxHeartbeats 1000000
/-! boxes.py: what is filled from a key on -/
namespace WK
open PySem PySem.Spec PyProof.Rows L2
/-- keys that are marked -/
def tr (l : List (List Int)) : List (List Int × V) := l.map fun k => (k, V.bl true)
theorem tr_keys (l : List (List Int)) : (tr l).map (·.1) = l := by
  unfold tr
  rw [List.map_map]
  exact List.map_id l
theorem tr_has {l : List (List Int)} {k : List Int} : (getI (tr l) k).isSome = decide (k ∈ l) := by
  by_cases h : k ∈ l
  · rw [decide_eq_true h]
    cases e : getI (tr l) k with
    | none =>
      have := getI_none.mp e
      rw [tr_keys] at this
      exact absurd h this
    | some v => rfl
  · rw [decide_eq_false h, getI_none.mpr (by rw [tr_keys]; exact h)]
    rfl
def unK : PyData → List Int
  | .tuple l => (numsOf l).getD []
  | _ => []
theorem unK_kD (k : List Int) : unK (kD k) = k := by
  show (numsOf (zD k)).getD [] = k
  rw [numsOf_zD]
  rfl
def sortK (ks : List (List Int)) : List (List Int) := (sortD (ks.map kD)).map unK
theorem sortK_perm (ks : List (List Int)) : (sortK ks).Perm ks := by
  have h := (sortD_perm (ks.map kD)).map unK
  rw [List.map_map] at h
  have e : ks.map (unK ∘ kD) = ks := by
    have : unK ∘ kD = id := funext unK_kD
    rw [this, List.map_id]
  rw [e] at h
  exact h
theorem sortK_map (ks : List (List Int)) : (sortK ks).map kD = sortD (ks.map kD) := by
  unfold sortK
  rw [List.map_map]
  have key : ∀ d ∈ sortD (ks.map kD), (kD ∘ unK) d = d := by
    intro d hd
    obtain ⟨k, _, rfl⟩ := List.mem_map.mp ((sortD_perm _).mem_iff.mp hd)
    show kD (unK (kD k)) = kD k
    rw [unK_kD]
  exact (List.map_congr_left key).trans (List.map_id _)
def at0 (k : List Int) (t : Nat) : Int := (k[t]?).getD 0
def geF : PyData → PyData
  | .tuple [.int a, .int b] => .bool (decide (b ≤ a))
  | _ => .none
def geB (high low : List Int) : Bool := (List.zipWith (fun a b => decide (b ≤ a)) high low).all id
theorem geF_map : ∀ high low : List Int, ((zipD (zD high) (zD low)).filter fun _ => true).map geF = (List.zipWith (fun a b => decide (b ≤ a)) high low).map PyData.bool
  | [], _ => rfl
  | _ :: _, [] => rfl
  | a :: high, b :: low => congrArg (_ :: ·) (geF_map high low)
def stepsOf (high low : List Int) : List Nat := (List.range low.length).filter fun t => decide (at0 low t < at0 high t)
def stepT (high low : List Int) : PyData → Bool
  | .int i => decide (at0 low i.toNat < at0 high i.toNat)
  | _ => false
def idF : PyData → PyData := fun d => d
theorem steps_map (high low : List Int) (n : Int) (hn : n = low.length) : ((rangeD n).filter (stepT high low)).map idF = (stepsOf high low).map fun (t : Nat) => PyData.int t := by
  subst hn
  unfold rangeD stepsOf
  rw [Int.toNat_natCast, List.filter_map]
  have : (fun d : PyData => d) = id := rfl
  unfold idF
  rw [this, List.map_id]
  congr 1
def inF (high : List Int) (found : List (List Int)) : PyData → PyData
  | .int t => .bool (decide (moved high t.toNat (-1) ∈ found))
  | _ => .none
/-- one key more -/
def ffStep (low : List Int) (found : List (List Int)) (high : List Int) : List (List Int) :=
  if geB high low = true then if ((stepsOf high low).all fun t => decide (moved high t (-1) ∈ found)) = true then found ++ [high] else found else found
def filledFrom (ks : List (List Int)) (low : List Int) : List (List Int) := (sortK ks).foldl (ffStep low) []
theorem ff_sub (low : List Int) : ∀ (l acc : List (List Int)), ∀ k ∈ l.foldl (ffStep low) acc, k ∈ acc ∨ k ∈ l
  | [], acc, k, h => .inl h
  | x :: l, acc, k, h => by
    rcases ff_sub low l (ffStep low acc x) k h with h | h
    · unfold ffStep at h
      split at h
      · split at h
        · rcases List.mem_append.mp h with h | h
          · exact .inl h
          · exact .inr (by rw [List.mem_singleton.mp h]; exact List.mem_cons_self)
        · exact .inl h
      · exact .inl h
    · exact .inr (List.mem_cons_of_mem _ h)
theorem ff_len (low : List Int) : ∀ (l acc : List (List Int)), (l.foldl (ffStep low) acc).length ≤ acc.length + l.length
  | [], acc => Nat.le_refl _
  | x :: l, acc => by
    refine Nat.le_trans (ff_len low l (ffStep low acc x)) ?_
    have : (ffStep low acc x).length ≤ acc.length + 1 := by
      unfold ffStep
      split
      · split
        · rw [List.length_append]
          exact Nat.le_refl _
        · omega
      · omega
    rw [List.length_cons]
    omega
/-- a sorted new list of a dict's keys -/
theorem el_srtD {X : Cx} {k : Nat} {a : Expr} {env : Nv} {H : Hp} {l : Addr} {ks : List (List Int)} {pos p : Pos} {sc : Scope} (A : Hs X k) (hs : X.env.scope = sc) (ha : EvV X a env H (.ref l)) (hl : Rd H l (.dT (dkv (tr ks)))) (S : Srt (ks.map kD)) (hg : glB sc "sorted" = true := by decide +kernel) (hp : plainE a = true := by rfl) :
    EvL X (.Call (.Name "sorted" p) [a] [] pos) env H ((sortK ks).map kD) := ⟨fun σ H1 e0 ok Q q =>
  ⟨_, pe_callB (cr_srtD A.calm A.units) (gl_of hs hg) (A.t.free (by decide +kernel)) boot_sorted (pa_cons pe_w pa_nil (star_of hp)) (by decide) (gl_db hg) (star_of hp) (plain_of rfl), ha.run σ H1 e0 ok _ fun H2 e2 =>
    ⟨l, dkv (tr ks), ks, rfl, rd_ex hl (e0.trans e2), by
      unfold dkv tr
      rw [List.map_map, List.map_map]
      rfl, S, fun pp ys hp' hy => q pp _ (e2.back hp') (e2.trans (Ex.new hp')) ⟨ys, upd_same, by
      rw [sortK_map]
      exact hy.mono (Ex.new hp').t⟩⟩⟩⟩
theorem inF_map (high low : List Int) (found : List (List Int)) : (((stepsOf high low).map fun (t : Nat) => PyData.int t).filter fun _ => true).map (inF high found) = ((stepsOf high low).map fun t => decide (moved high t (-1) ∈ found)).map PyData.bool := by
  rw [filt_all, List.map_map, List.map_map]
  apply List.map_congr_left
  intro t _
  show PyData.bool (decide (moved high (Int.toNat (t : Int)) (-1) ∈ found)) = _
  rw [Int.toNat_natCast]
  rfl
theorem all_steps {l : List Nat} {p : Nat → Bool} (h : (l.map p).all id = true) : l.all p = true := by
  rw [List.all_map] at h
  exact h
theorem not_steps {l : List Nat} {p : Nat → Bool} (h : (l.map p).all id = false) : l.all p = false := by
  rw [List.all_map] at h
  exact h
/-- the keys' dict, marked keys -/
def SpFill : Sp := fun vs H Q _ => ∃ d v ks low n, vs = [.ref d, v] ∧ Rd H d (.dT (dkv (tr ks))) ∧ Rp H v (kD low) ∧ low.length = n ∧ 1 ≤ n ∧ n ≤ 100 ∧ (∀ k ∈ ks, k.length = n) ∧ ks.Nodup ∧ ks.length ≤ 50000 ∧
  ∀ p H', H p = none → Ex H H' → H' p = some (.dT (dkv (tr (filledFrom ks low)))) → Q (.ref p) H'
theorem len_filled_from : ∀ vs H Q E, SpFill vs H Q E → vs.length = (["keys", "low"] : List Str).length := by
  rintro vs H Q E ⟨d, v, ks, low, n, rfl, _⟩
  rfl
theorem mem_zipZ {a b : List Int} {d : PyData} (h : d ∈ zipD (zD a) (zD b)) : ∃ x y, d = .tuple [.int x, .int y] := by
  unfold zipD at h
  obtain ⟨i, hi⟩ := List.mem_iff_getElem?.mp h
  rw [List.getElem?_zipWith, zD_get, zD_get] at hi
  cases e1 : a[i]? with
  | none =>
    rw [e1] at hi
    cases hi
  | some x =>
    cases e2 : b[i]? with
    | none =>
      rw [e1, e2] at hi
      cases hi
    | some y =>
      rw [e1, e2] at hi
      exact ⟨x, y, (Option.some.inj hi).symm⟩
theorem mem_rangeD {d : PyData} {n : Int} (h : d ∈ rangeD n) : ∃ i : Nat, i < n.toNat ∧ d = .int (i : Int) := by
  unfold rangeD at h
  obtain ⟨i, hi, rfl⟩ := List.mem_map.mp h
  exact ⟨i, List.mem_range.mp hi, rfl⟩
theorem mem_steps {high low : List Int} {d : PyData} (h : d ∈ (stepsOf high low).map fun (t : Nat) => PyData.int t) : ∃ t : Nat, t < low.length ∧ d = .int (t : Int) := by
  obtain ⟨t, ht, rfl⟩ := List.mem_map.mp h
  exact ⟨t, List.mem_range.mp (List.mem_filter.mp ht).1, rfl⟩
theorem key_atN {key : List Int} {t : Nat} (h1 : t < key.length) : atI (zD key) (t : Int) = some (.int (at0 key t)) := by
  have := key_at (key := key) (t := (t : Int)) (by omega) (by omega)
  rw [Int.toNat_natCast] at this
  exact this
theorem sc_filled_from : FnScope ((["keys", "low"] : List Str) ++ (["found", "high", "steps", "one", "other", "tooth"] : List Str)) ["keys", "low"] (defScope (top 40)) := fnScope_by (by decide +kernel)
instance : HasCal "filled_from" 2 ["keys", "low"] SpFill := ⟨fun P w K mg T => by
  refine Cal.mk' T (i := 40) (N := (["keys", "low"] : List Str) ++ (["found", "high", "steps", "one", "other", "tooth"] : List Str)) (List.mem_of_getElem? (i := 11) rfl) (by decide +kernel) sc_filled_from (fun _ _ _ _ _ _ us hl => match us, hl with | [_, _], _ => rfl) len_filled_from fun X A hs hN hf vs H Q E h => ?_
  obtain ⟨kd, v, ks, low, n, rfl, hkd0, hlow, hn, hn1, hn2, hks, hnd, hkl, hq⟩ := h
  have g : Go X (defBody (top 40)) ([("keys", .v (.ref kd)), ("low", .d (kD low)), ("found", .un), ("high", .un), ("steps", .un), ("one", .un), ("other", .un), ("tooth", .un)] : Nv) H { nx := fun _ H' => Q .non H', rt := Q } := by
    refine go_setD A (fun _ => (.next (.next (.here)))) (locN hf hs (by decide +kernel)) fun a H0 na e0 hd0 => ?_
    have hkd := rd_ex hkd0 e0
    have zl : (zD low).length = n := by rw [zD_len]; exact hn
    have hp := sortK_perm ks
    have hsn : (sortK ks).Nodup := hp.nodup_iff.mpr hnd
    have hsl0 : (sortK ks).length = ks.length := hp.length_eq
    refine go_forQ (fun H2 i nv H' => ExL a H2 H' ∧ ∃ s1 s2, nv = ([("keys", .v (.ref kd)), ("low", .d (kD low)), ("found", .v (.ref a)), ("high", s1), ("steps", s2), ("one", .un), ("other", .un), ("tooth", .un)] : Nv) ∧ H' a = some (.dT (dkv (tr (((sortK ks).take i).foldl (ffStep low) []))))) A (ei_new (el_srtD A hs (ev_var .here hs (by decide +kernel)) hkd (keys_srt hn1 hks (by omega))))
      (fun H2 e2 => ⟨(Ex.refl H2).l, _, _, rfl, e2 _ _ hd0⟩) (fun H2 o e2 ho i nv H' p => pk_x hd0 (fun xs z => nomatch z) e2 ho (fun b hb => nomatch hb) p.1) ?_ ?_
    · rintro H2 i d nv H' e2 hd ⟨xl, s1, s2, rfl, hda⟩
      rw [List.getElem?_map] at hd
      cases hx : (sortK ks)[i]? with
      | none =>
        rw [hx] at hd
        cases hd
      | some high =>
        rw [hx] at hd
        obtain rfl : kD high = d := by simpa using hd
        have hi : i < (sortK ks).length := (List.getElem?_eq_some_iff.mp hx).1
        have hlen := hks high (hp.mem_iff.mp (List.mem_of_getElem? hx))
        have hnew : high ∉ ((sortK ks).take i).foldl (ffStep low) [] := fun z => by
          rcases ff_sub low _ _ _ z with z | z
          · cases z
          · exact not_take hsn hx z
        have hfl := ff_len low ((sortK ks).take i) []
        rw [List.length_take, List.length_nil] at hfl
        have hspec : ((sortK ks).take (i + 1)).foldl (ffStep low) [] = ffStep low (((sortK ks).take i).foldl (ffStep low) []) high := by
          rw [take_snoc hx, List.foldl_append]
          rfl
        generalize ((sortK ks).take i).foldl (ffStep low) [] = found at hda hnew hfl hspec
        refine ⟨_, _, .name (.next (.next (.next (.here)))), fun q hq => locN hf hs (by simp at hq; rcases hq with rfl; decide +kernel), fun H3 D' e3 hnx hct hbk hrt => ?_⟩
        refine go_when (et_val (ed_all A hs (EvL.r (el_lc (N := ["keys", "low", "found", "high", "steps", "one", "other", "tooth"]) (own := [("one", 5), ("other", 6)]) (fun _ => true) geF A hs (ei_zip A hs (by decide +kernel) (ed_var (.next (.next (.next (.here)))) hs (by decide +kernel)) (ed_var (.next (.here)) hs (by decide +kernel))) (zip_len _ (by rw [zD_len]; omega) _) rfl (by decide +kernel) (.drop (.drop (.drop (.drop (.drop (.drop (.drop (.drop .nil)))))))) (fun d hd => by
      obtain ⟨x, y, rfl⟩ := mem_zipZ hd
      exact ⟨_, (.tup (.cons (.name (.next (.next (.next (.next (.next (.here))))))) (.cons (.name (.next (.next (.next (.next (.next (.next (.here)))))))) .nil))), fun X A hs => ⟨ts_nil, fun h_1 => (ed_ge (ed_var (.next (.next (.next (.next (.next (.here)))))) hs (by decide +kernel)) (ed_var (.next (.next (.next (.next (.next (.next (.here))))))) hs (by decide +kernel)))⟩⟩))) (geF_map high low))) (fun ht => ?_) fun ht => ?_
        · have hg : geB high low = true := ht
          refine (go_setLc (N := ["keys", "low", "found", "high", "steps", "one", "other", "tooth"]) (own := [("tooth", 7)]) (stepT high low) idF A hs (ei_range A hs (by decide +kernel) (ed_len A hs (ed_var (.next (.here)) hs (by decide +kernel))) (by first | omega | decide)) (by rw [rangeD_len, zD_len]; omega) rfl (by decide +kernel) (.drop (.keep (by decide +kernel) (by decide) (.drop (.keep (by decide +kernel) (by decide) (.drop (.drop (.drop (.drop .nil)))))))) (fun d hd => by
      obtain ⟨i, hi, rfl⟩ := mem_rangeD hd
      rw [zD_len] at hi
      have k1 := key_atN (key := high) (t := i) (by omega)
      have k2 := key_atN (key := low) (t := i) (by omega)
      exact ⟨_, (.name (.next (.next (.next (.next (.next (.next (.next (.here))))))))), fun X A hs => ⟨(ts_one (et_gt (ed_ix (ed_var (.next (.next (.next (.here)))) hs (by decide +kernel)) (ed_var (.next (.next (.next (.next (.next (.next (.next (.here)))))))) hs (by decide +kernel)) (by first | rfl | assumption | decide +kernel)) (ed_ix (ed_var (.next (.here)) hs (by decide +kernel)) (ed_var (.next (.next (.next (.next (.next (.next (.next (.here)))))))) hs (by decide +kernel)) (by first | rfl | assumption | decide +kernel)))), fun h_3 => (ed_var (.next (.next (.next (.next (.next (.next (.next (.here)))))))) hs (by decide +kernel))⟩⟩) (fun _ => (.next (.next (.next (.next (.here)))))) (by decide +kernel) fun st H4 nst e4 hsl => ?_)
          rw [steps_map high low _ (by rw [zD_len])] at hsl
          have hst : (stepsOf high low).length ≤ 100000 := by
            have := List.length_filter_le (fun t => decide (at0 low t < at0 high t)) (List.range low.length)
            rw [List.length_range] at this
            unfold stepsOf
            omega
          have hda := e4 _ _ (e3 _ _ hda)
          refine go_when (et_val (ed_all A hs (EvL.r (el_lc (N := ["keys", "low", "found", "high", "steps", "one", "other", "tooth"]) (own := [("tooth", 7)]) (fun _ => true) (inF high found) A hs (ei_lst (ev_var (.next (.next (.next (.next (.here))))) hs (by decide +kernel)) hsl) (by rw [List.length_map]; exact hst) rfl (by decide +kernel) (.drop (.drop (.keep (by decide +kernel) (by decide) (.keep (by decide +kernel) (by decide) (.drop (.drop (.drop (.drop .nil)))))))) (fun d hd => by
      obtain ⟨i, hi, rfl⟩ := mem_steps hd
      exact ⟨_, (.name (.next (.next (.next (.next (.next (.next (.next (.here))))))))), fun X A hs => ⟨ts_nil, fun h_2 => ((ed_din A (ed_call A hs (ea_cons (ed_var (.next (.next (.next (.here)))) hs (by decide +kernel)) (ea_cons (ed_var (.next (.next (.next (.next (.next (.next (.next (.here)))))))) hs (by decide +kernel)) (ea_cons (ed_neg ed_int) ea_nil))) (R_moved_end.mk high i (-1) (by omega) (by omega))) (dc_var (ev_var (.next (.next (.here))) hs (by decide +kernel)) (.inl hda))).is (by show PyData.bool (getI (tr found) _).isSome = PyData.bool (decide (moved high (Int.toNat (i : Int)) (-1) ∈ found)); rw [Int.toNat_natCast, tr_has]))⟩⟩))) (inF_map high low found))) (fun ht2 => ?_) fun ht2 => ?_
          · refine go_dput A (ev_var (.next (.next (.here))) hs (by decide +kernel)) hda (ed_var (.next (.next (.next (.here)))) hs (by decide +kernel)) ed_bl (by rw [tr_keys]; exact hnew) (by unfold tr; rw [List.length_map]; omega) fun H5 v x5 rv h5 => go_nil fun σ H6 e6 ok6 => ⟨_, pss_nil, _, pss_nil, ?_⟩
            cases rv
            refine hnx σ H6 _ ok6 ⟨(xl.trans e3.l).trans (e4.l.trans (x5.trans e6.l)), _, _, rfl, ?_⟩
            rw [hspec]
            unfold ffStep
            rw [if_pos hg, if_pos (all_steps ht2)]
            have := e6 _ _ h5
            unfold tr at this ⊢
            rw [List.map_append]
            exact this
          · refine go_nil fun σ H6 e6 ok6 => ⟨_, pss_nil, ?_⟩
            refine hnx σ H6 _ ok6 ⟨(xl.trans e3.l).trans (e4.l.trans e6.l), _, _, rfl, ?_⟩
            rw [hspec]
            unfold ffStep
            rw [if_pos hg, if_neg (by rw [not_steps ht2]; decide)]
            exact e6 _ _ hda
        · have hg : ¬ geB high low = true := by
            intro z
            have ht : geB high low = false := ht
            rw [z] at ht
            cases ht
          refine go_nil fun σ H6 e6 ok6 => hnx σ H6 _ ok6 ⟨(xl.trans e3.l).trans e6.l, _, _, rfl, ?_⟩
          rw [hspec]
          unfold ffStep
          rw [if_neg hg]
          exact e6 _ _ (e3 _ _ hda)
    · rintro H2 nv H' e2 ⟨xl, s1, s2, rfl, hda⟩
      refine go_retV (ev_var (.next (.next (.here))) hs (by decide +kernel)) fun H5 e5 => ?_
      rw [List.length_map, List.take_of_length_le (Nat.le_refl _)] at hda
      exact hq a H5 na (fun b o z => e5 _ _ (xl _ _ (ne_of_none z na) (e2 _ _ (e0 _ _ z)))) (e5 _ _ hda)
  exact g.run _ H (Ex.refl _) ⟨hN, .cons rfl (.cons hlow (nva_un ["found", "high", "steps", "one", "other", "tooth"])), by rw [hs]; exact vis1 (by decide +kernel) (vis1 (by decide +kernel) (unM_vis ["found", "high", "steps", "one", "other", "tooth"]))⟩⟩
end WK
/-! WKZip -/
set_option Elab.async false
set_option linter.all false
set_option maxRecDepth 100000
set_option maxHeartbeats 1000000
/-! list(zip(a, b)), a and b tuples: each pair that comes out is held by the list. -/
namespace PySem
open Sem (wp)
open PySem.W (kdx_alive)
section
variable {pg : Program} {wd : World} {Ar : Around} {Er : Value → Shared → Prop} {st : Shared}
/-- a pair more, the last one still out -/
theorem wk_zipHeld {z TI TO T p q a b : Addr} {f : Bool} {oT : Obj} {m : Nat} {us vs : Array Value} {u v : Value} {Qr : Value → Shared → Prop} (ap : ZipApart z TI TO p q a b) (zz : IsZipHeld st.heap z TI TO T f) (tt : st.heap.get? T = some oT)
    (ti : IsPair st.heap TI (.ref p) (.ref q)) (ip : st.heap.IsTupleIter p a m) (iq : st.heap.IsTupleIter q b m) (ta : st.heap.IsTuple a us) (tb : st.heap.IsTuple b vs) (gu : us[m]? = some u) (gv : vs[m]? = some v)
    (kk : ∀ g, IsZipHeld g z TI TO T true → g.IsTupleIter p a (m + 1) → g.IsTupleIter q b (m + 1) → IsPair g st.heap.objs.size u v → (∀ c o, c ≠ z → c ≠ p → c ≠ q → st.heap.get? c = some o → g.get? c = some o) → Qr (.ref st.heap.objs.size) { st with heap := g }) :
    wpAny (model pg wd) Ar (Builtin.«zip.__next__» ⟨[.ref z], []⟩) (fun fin s' => ∃ y, fin = .done (.ret y) ∧ Qr y s') Er st := by
  show wpAny _ _ (field (.ref z) 2 >>= _) _ _ _
  refine wpAny_bind (wpAny_field zz rfl (x := .bool false) rfl ?_)
  show wpAny _ _ (field (.ref z) 3 >>= _) _ _ _
  refine wpAny_bind (wpAny_field zz rfl (x := .ref TI) rfl ?_)
  refine wpAny_bind (wpAny_seqItems ti rfl (wpAny_bind (wpAny_tupleHeld_zip zz tt fun g1 z1 b1 => ?_)))
  simp only [Bool.false_eq_true, if_false]
  refine wpAny_bind ?_
  rw [← Array.forIn_toList]
  simp only [List.forIn_cons, List.forIn_nil]
  refine wpAny_bind (wpAny_bind (wpAny_holding ?_))
  show wpAny _ _ (Builtin.SmallTypes.nextOf (.ref p) >>= _) _ _ _
  refine wpAny_bind (wpAny_nextOf_tuple_item (s := { st with heap := g1 }) (ip.extBut b1.extBut ap.i1z) (ta.extBut b1.extBut ap.l1z) gu fun g2 p2 b2 => wpAny_pure (wpAny_pure ?_))
  refine wpAny_bind (wpAny_bind (wpAny_holding ?_))
  show wpAny _ _ (Builtin.SmallTypes.nextOf (.ref q) >>= _) _ _ _
  refine wpAny_bind (wpAny_nextOf_tuple_item (s := { st with heap := g2 }) ((iq.extBut b1.extBut ap.i2z).extBut b2.extBut ap.i12.symm) ((tb.extBut b1.extBut ap.l2z).extBut b2.extBut ap.l2i1) gv fun g3 q3 b3 => wpAny_pure (wpAny_pure (wpAny_pure ?_)))
  show wpAny _ _ (newTuple [u, v] >>= _) _ _ _
  refine wpAny_bind (wpAny_newTuple (wpAny_pure ⟨_, rfl, ?_⟩))
  have e : g3.objs.size = st.heap.objs.size := by rw [b3.1, b2.1, b1.1]
  have z3 : IsZipHeld g3 z TI TO T true := b3.extBut _ _ ap.i2z.symm (b2.extBut _ _ ap.i1z.symm z1)
  have p3 : g3.IsTupleIter p a (m + 1) := p2.extBut b3.extBut ap.i12
  have pp : IsPair (g3.push { cls := .type "tuple", data := .seq #[u, v] }) g3.objs.size u v := Heap.get?_push_size _ rfl
  show Qr (.ref g3.objs.size) _
  rw [e] at pp ⊢
  exact kk _ (Heap.get?_push_of_some _ z3) (p3.at fun o w => Heap.get?_push_of_some _ w) (q3.at fun o w => Heap.get?_push_of_some _ w) pp fun c o n1 n2 n3 w => Heap.get?_push_of_some _ (b3.extBut _ _ n3 (b2.extBut _ _ n2 (b1.extBut _ _ n1 w)))
/-- none more -/
theorem wk_zipHeldEnd {z TI TO T p q a b : Addr} {f : Bool} {oT : Obj} {m : Nat} {us vs : Array Value} {Qr : Fin → Shared → Prop} (hh : Ar.handled = none) (ap : ZipApart z TI TO p q a b) (zz : IsZipHeld st.heap z TI TO T f) (tt : st.heap.get? T = some oT)
    (ti : IsPair st.heap TI (.ref p) (.ref q)) (ip : st.heap.IsTupleIter p a m) (iq : st.heap.IsTupleIter q b m) (ta : st.heap.IsTuple a us) (tb : st.heap.IsTuple b vs) (en : us[m]? = none ∨ vs[m]? = none)
    (ke : ∀ g e, (∀ c o, c ≠ z → c ≠ p → c ≠ q → st.heap.get? c = some o → g.get? c = some o) → (∃ o, g.get? e = some o ∧ o.cls = .type "StopIteration") → Er (.ref e) { st with heap := g }) :
    wpAny (model pg wd) Ar (Builtin.«zip.__next__» ⟨[.ref z], []⟩) Qr Er st := by
  show wpAny _ _ (field (.ref z) 2 >>= _) _ _ _
  refine wpAny_bind (wpAny_field zz rfl (x := .bool false) rfl ?_)
  show wpAny _ _ (field (.ref z) 3 >>= _) _ _ _
  refine wpAny_bind (wpAny_field zz rfl (x := .ref TI) rfl ?_)
  refine wpAny_bind (wpAny_seqItems ti rfl (wpAny_bind (wpAny_tupleHeld_zip zz tt fun g1 z1 b1 => ?_)))
  simp only [Bool.false_eq_true, if_false]
  refine wpAny_bind ?_
  rw [← Array.forIn_toList]
  simp only [List.forIn_cons, List.forIn_nil]
  refine wpAny_bind (wpAny_bind (wpAny_holding ?_))
  show wpAny _ _ (Builtin.SmallTypes.nextOf (.ref p) >>= _) _ _ _
  cases gu : us[m]? with
  | none =>
    refine wpAny_bind (wpAny_nextOf_tuple_end (s := { st with heap := g1 }) hh (ip.extBut b1.extBut ap.i1z) (ta.extBut b1.extBut ap.l1z) gu fun g2 e b2 w => ?_)
    exact ke g2 e (fun c o n1 n2 _ x => b2 _ _ n2 (b1.extBut _ _ n1 x)) w
  | some u =>
    have gv : vs[m]? = none := by
      rcases en with w | w
      · rw [gu] at w
        cases w
      · exact w
    refine wpAny_bind (wpAny_nextOf_tuple_item (s := { st with heap := g1 }) (ip.extBut b1.extBut ap.i1z) (ta.extBut b1.extBut ap.l1z) gu fun g2 p2 b2 => wpAny_pure (wpAny_pure ?_))
    refine wpAny_bind (wpAny_bind (wpAny_holding ?_))
    show wpAny _ _ (Builtin.SmallTypes.nextOf (.ref q) >>= _) _ _ _
    refine wpAny_bind (wpAny_nextOf_tuple_end (s := { st with heap := g2 }) hh ((iq.extBut b1.extBut ap.i2z).extBut b2.extBut ap.i12.symm) ((tb.extBut b1.extBut ap.l2z).extBut b2.extBut ap.l2i1) gv fun g3 e b3 w => ?_)
    exact ke g3 e (fun c o n1 n2 n3 x => b3 _ _ n3 (b2.extBut _ _ n2 (b1.extBut _ _ n1 x))) w
/-- where the zip stands: nothing out yet, or the last pair out, held elsewhere than at S -/
def WkZs (h : Heap) (S z TI TO p q a b : Addr) (m : Nat) : Prop :=
  IsPair h TI (.ref p) (.ref q) ∧ h.IsTupleIter p a m ∧ h.IsTupleIter q b m ∧ ((IsZip h z TI TO .none ∧ ∃ x y, IsPair h TO x y) ∨ ∃ T f x y, IsZipHeld h z TI TO T f ∧ IsPair h T x y ∧ T ≠ S)
theorem WkZs.keep {h h' : Heap} {S z TI TO p q a b : Addr} {m : Nat} (x : WkZs h S z TI TO p q a b m) (n1 : z ≠ S) (n2 : TI ≠ S) (n3 : TO ≠ S) (n4 : p ≠ S) (n5 : q ≠ S) (k : ∀ c o, c ≠ S → h.get? c = some o → h'.get? c = some o) : WkZs h' S z TI TO p q a b m := by
  obtain ⟨x1, x2, x3, x4⟩ := x
  refine ⟨k _ _ n2 x1, x2.at fun o e => k _ o n4 e, x3.at fun o e => k _ o n5 e, ?_⟩
  rcases x4 with ⟨y1, u, v, y2⟩ | ⟨T, f, u, v, y1, y2, y3⟩
  · exact .inl ⟨k _ _ n1 y1, u, v, k _ _ n3 y2⟩
  · exact .inr ⟨T, f, u, v, k _ _ n1 y1, k _ _ y3 y2, y3⟩
theorem wk_ne {h : Heap} {T c : Addr} {x y : Value} {o : Obj} (a : IsPair h T x y) (b : h.get? c = some o) (n : o.cls ≠ .type "tuple") : T ≠ c := by
  rintro rfl
  have e := a.symm.trans b
  cases e
  exact n rfl
theorem wk_ne3 {h : Heap} {T c l : Addr} {x y : Value} {m : Nat} (a : IsPair h T x y) (b : h.IsTupleIter c l m) : T ≠ c := by
  obtain ⟨o, e, cl, _⟩ := b
  exact wk_ne a e (by rw [cl]; simp)
theorem wk_zipNext {S z TI TO p q a b : Addr} {m : Nat} {us vs : Array Value} {u v : Value} {Qr : Option Value → Shared → Prop} (ap : ZipApart z TI TO p q a b) (zs : WkZs st.heap S z TI TO p q a b m) (hS : S < st.heap.objs.size) (ta : st.heap.IsTuple a us) (tb : st.heap.IsTuple b vs) (gu : us[m]? = some u) (gv : vs[m]? = some v)
    (kk : ∀ g, WkZs g S z TI TO p q a b (m + 1) → IsPair g st.heap.objs.size u v → (∀ c o, c ≠ z → c ≠ TO → c ≠ p → c ≠ q → st.heap.get? c = some o → g.get? c = some o) → Qr (some (.ref st.heap.objs.size)) { st with heap := g }) : wpAny (model pg wd) Ar (pyNext (.ref z)) Qr Er st := by
  obtain ⟨x1, x2, x3, x4⟩ := zs
  rcases x4 with ⟨y1, c, d, y2⟩ | ⟨T, f, c, d, y1, y2, y3⟩
  · refine RZ.pyNext_zipT_item ap y1 x1 y2 x2 x3 ta tb gu gv fun g w1 w2 w3 w4 w5 w6 w7 => kk g ⟨w7 _ _ ap.TIz ap.TITO ap.TIi1 ap.TIi2 x1, w3, w4, .inr ⟨st.heap.objs.size, false, _, _, w1, w5, Nat.ne_of_gt hS⟩⟩ w5 w7
  · have ty : st.TypeIs (.ref z) "zip" := ⟨_, y1, rfl⟩
    unfold pyNext
    exact wpAny_bind (wpAny_attempt (wpAny_callSpecial?_slot (name := Str.ofString "__next__") ty F.slot_zip_next (wpAny_call_entry F.slot_zip_next ty F.entry_zip_next (wk_zipHeld ap y1 y2 x1 x2 x3 ta tb gu gv fun g w1 w3 w4 w5 w7 => wpAny_pure (kk g ⟨w7 _ _ ap.TIz ap.TIi1 ap.TIi2 x1, w3, w4, .inr ⟨T, true, c, d, w1, w7 _ _ (wk_ne y2 y1 (by simp)) (wk_ne3 y2 x2) (wk_ne3 y2 x3) y2, y3⟩⟩ w5 fun c o n1 _ n2 n3 e => w7 c o n1 n2 n3 e)) (F.args_zip_next_1 _))))
theorem wk_zipStop {S z TI TO p q a b : Addr} {m : Nat} {us vs : Array Value} {Qr : Option Value → Shared → Prop} (hh : Ar.handled = none) (ap : ZipApart z TI TO p q a b) (zs : WkZs st.heap S z TI TO p q a b m) (ta : st.heap.IsTuple a us) (tb : st.heap.IsTuple b vs) (en : us[m]? = none ∨ vs[m]? = none)
    (kk : ∀ g, (∀ c o, c ≠ z → c ≠ TO → c ≠ p → c ≠ q → st.heap.get? c = some o → g.get? c = some o) → Qr none { st with heap := g }) : wpAny (model pg wd) Ar (pyNext (.ref z)) Qr Er st := by
  obtain ⟨x1, x2, x3, x4⟩ := zs
  rcases x4 with ⟨y1, c, d, y2⟩ | ⟨T, f, c, d, y1, y2, y3⟩
  · exact RZ.pyNext_zipT_end hh ap y1 x1 y2 x2 x3 ta tb en kk
  · have ty : st.TypeIs (.ref z) "zip" := ⟨_, y1, rfl⟩
    unfold pyNext
    refine wpAny_bind (wpAny_attempt (wpAny_callSpecial?_slot (name := Str.ofString "__next__") ty F.slot_zip_next (wpAny_call_entry F.slot_zip_next ty F.entry_zip_next (wk_zipHeldEnd hh ap y1 y2 x1 x2 x3 ta tb en fun g e w1 w2 => ?_) (F.args_zip_next_1 _))))
    obtain ⟨oe, w3, w4⟩ := w2
    exact wpAny_bind (wpAny_isInstance (T := "StopIteration") (b := true) ⟨oe, w3, w4⟩ isSubtype_stop (wpAny_pure (kk _ fun c o n1 _ n2 n3 e => w1 c o n1 n2 n3 e)))
end
/-- the pairs that were made -/
structure WkPs (us vs : Array Value) (lo : Addr) (h : Heap) (l : List Addr) : Prop where
  rise : l.Pairwise (· < ·)
  above : ∀ x ∈ l, lo < x
  pair : ∀ (j : Nat) (x : Addr), l[j]? = some x → ∃ u v, us[j]? = some u ∧ vs[j]? = some v ∧ IsPair h x u v
theorem WkPs.lt {us vs : Array Value} {lo : Addr} {h : Heap} {l : List Addr} (g : WkPs us vs lo h l) {x : Addr} (hx : x ∈ l) : x < h.objs.size := by
  obtain ⟨j, hj⟩ := List.mem_iff_getElem?.mp hx
  obtain ⟨_, _, _, _, e⟩ := g.pair j x hj
  exact Heap.lt_size e
theorem WkPs.to {us vs : Array Value} {lo : Addr} {h h' : Heap} {l : List Addr} (g : WkPs us vs lo h l) (k : ∀ x ∈ l, ∀ o, h.get? x = some o → h'.get? x = some o) : WkPs us vs lo h' l := ⟨g.rise, g.above, fun j x hj => by
  obtain ⟨u, v, e1, e2, e3⟩ := g.pair j x hj
  exact ⟨u, v, e1, e2, k x (List.mem_of_getElem? hj) _ e3⟩⟩
theorem WkPs.snoc {us vs : Array Value} {lo x : Addr} {h : Heap} {l : List Addr} {u v : Value} (g : WkPs us vs lo h l) (hl : ∀ y ∈ l, y < x) (hx : lo < x) (gu : us[l.length]? = some u) (gv : vs[l.length]? = some v) (hp : IsPair h x u v) : WkPs us vs lo h (l ++ [x]) := by
  refine ⟨List.pairwise_append.mpr ⟨g.rise, List.pairwise_singleton _ _, fun y hy z hz => ?_⟩, fun y hy => ?_, fun j y hj => ?_⟩
  · rw [List.mem_singleton.mp hz]
    exact hl y hy
  · rcases List.mem_append.mp hy with hy | hy
    · exact g.above y hy
    · rw [List.mem_singleton.mp hy]
      exact hx
  · rcases Nat.lt_trichotomy j l.length with w | w | w
    · rw [List.getElem?_append_left w] at hj
      exact g.pair j y hj
    · subst w
      have e : x = y := by simpa using hj
      subst e
      exact ⟨u, v, gu, gv, hp⟩
    · rw [List.getElem?_eq_none (by rw [List.length_append, List.length_singleton]; omega)] at hj
      cases hj
section
variable {pg : Program} {wd : World} {Ar : Around} {Er : Value → Shared → Prop} {st : Shared}
theorem wk_zipLoop {R : Result → Shared → Prop} {S z TI TO p q a b : Addr} {us vs : Array Value} (hh : Ar.handled = none) (ap : ZipApart z TI TO p q a b) (nz : z < S) (nI : TI < S) (nO : TO < S) (np : p < S) (nq : q < S) (na : a < S) (nb : b < S) (bound : us.size ≤ sizeLine) (res : Value) {h1 : Heap}
    (fin : ∀ g tk acc c l, (∀ b' o, b' ≠ S → b' ≠ z → b' ≠ TO → b' ≠ p → b' ≠ q → h1.get? b' = some o → g.get? b' = some o) → g.get? S = some { cls := .type "list", dict := none, data := .seq acc c, slots := #[] } → l.length = min us.size vs.size → WkPs us vs S g l → acc.toList = l.map Value.ref → R (.ok (.ret res)) { st with heap := g, toks := tk }) :
    ∀ (k m : Nat) (h : Heap) (tk c : Nat) (acc : Array Value) (l : List Addr), min us.size vs.size - m = k → m ≤ min us.size vs.size → WkZs h S z TI TO p q a b m → h.IsTuple a us → h.IsTuple b vs → (∀ b' o, b' ≠ S → b' ≠ z → b' ≠ TO → b' ≠ p → b' ≠ q → h1.get? b' = some o → h.get? b' = some o) →
      h.get? S = some { cls := .type "list", dict := none, data := .seq acc c, slots := #[] } → acc.toList = l.map Value.ref → l.length = m → WkPs us vs S h l → codeAny (model pg wd) Ar (.builtin "list.extend.loop" ⟨[.ref S, .ref z, res], []⟩) R { st with heap := h, toks := tk } := by
  intro k
  induction k with
  | zero =>
    intro m h tk c acc l hk hm zs ta tb kp hS ha hl hG
    refine codeAny_builtin PySem.F.entry_extend_loop ?_
    rw [Around.under_plainId PySem.F.plain_extend_loop _]
    show wpAny _ Ar.in1 (pyNext (.ref z) >>= _) _ _ _
    have en : us[m]? = none ∨ vs[m]? = none := by
      rcases Nat.le_total us.size vs.size with w | w
      · exact .inl (Array.getElem?_eq_none (by omega))
      · exact .inr (Array.getElem?_eq_none (by omega))
    refine wpAny_bind (wk_zipStop (st := { st with heap := h, toks := tk }) (Ar := Ar.in1) hh ap zs ta tb en fun g kg => wpAny_pure ?_)
    refine fin g tk acc c l (fun b' o n0 n1 n2 n3 n4 e => kg b' o n1 n2 n3 n4 (kp b' o n0 n1 n2 n3 n4 e)) (kg S _ (Nat.ne_of_gt nz) (Nat.ne_of_gt nO) (Nat.ne_of_gt np) (Nat.ne_of_gt nq) hS) (by omega) (hG.to fun x hx o e => ?_) ha
    have hb := hG.above x hx
    exact kg x o (Nat.ne_of_gt (Nat.lt_trans nz hb)) (Nat.ne_of_gt (Nat.lt_trans nO hb)) (Nat.ne_of_gt (Nat.lt_trans np hb)) (Nat.ne_of_gt (Nat.lt_trans nq hb)) e
  | succ k ih =>
    intro m h tk c acc l hk hm zs ta tb kp hS ha hl hG
    have hmu : m < us.size := by omega
    have hmv : m < vs.size := by omega
    have hSl : S < h.objs.size := Heap.lt_size hS
    have hsz : acc.size = m := by rw [← Array.length_toList, ha, List.length_map, hl]
    refine codeAny_builtin PySem.F.entry_extend_loop ?_
    rw [Around.under_plainId PySem.F.plain_extend_loop _]
    show wpAny _ Ar.in1 (pyNext (.ref z) >>= _) _ _ _
    refine wpAny_bind (wk_zipNext (st := { st with heap := h, toks := tk }) ap zs hSl ta tb (Array.getElem?_eq_getElem hmu) (Array.getElem?_eq_getElem hmv) fun g zs' hp kg => ?_)
    dsimp only at hp kg ⊢
    have kgS := kg S _ (Nat.ne_of_gt nz) (Nat.ne_of_gt nO) (Nat.ne_of_gt np) (Nat.ne_of_gt nq) hS
    have up : ∀ b' o, b' ≠ S → g.get? b' = some o → (g.update S (Obj.mapSeq (·.push (Value.ref h.objs.size)))).get? b' = some o := fun b' o n e => (Heap.get?_update_other _ _ (Ne.symm n)).trans e
    show wpAny _ Ar.in1 (updateSeq S (·.push (Value.ref h.objs.size)) >>= _) _ _ _
    refine wpAny_bind (wpAny_updateSeq kgS rfl (wpAny_pure ⟨plainId_quiet PySem.F.plain_extend_loop _, ?_⟩) (by rw [hsz]; omega) (by show (acc.push (Value.ref h.objs.size)).size ≤ sizeLine + 1; rw [Array.size_push, hsz]; omega))
    refine ih (m + 1) _ tk _ (acc.push (Value.ref h.objs.size)) (l ++ [h.objs.size]) (by omega) (by omega) (zs'.keep (Nat.ne_of_lt nz) (Nat.ne_of_lt nI) (Nat.ne_of_lt nO) (Nat.ne_of_lt np) (Nat.ne_of_lt nq) up) ?_ ?_ (fun b' o n0 n1 n2 n3 n4 e => up b' o n0 (kg b' o n1 n2 n3 n4 (kp b' o n0 n1 n2 n3 n4 e))) (Heap.get?_update_self _ kgS rfl) (by rw [Array.toList_push, ha, List.map_append]; rfl) (by rw [List.length_append, hl]; rfl) ?_
    · exact ta.at fun o e => up a o (Nat.ne_of_lt na) (kg a o ap.l1z ap.l1TO ap.l1i1 ap.l1i2 e)
    · exact tb.at fun o e => up b o (Nat.ne_of_lt nb) (kg b o ap.l2z ap.l2TO ap.l2i1 ap.l2i2 e)
    · refine WkPs.snoc (hG.to fun x hx o e => ?_) (fun y hy => hG.lt hy) hSl (by rw [hl]; exact Array.getElem?_eq_getElem hmu) (by rw [hl]; exact Array.getElem?_eq_getElem hmv) (up _ _ (Nat.ne_of_gt hSl) hp)
      have hb := hG.above x hx
      exact up x o (Nat.ne_of_gt hb) (kg x o (Nat.ne_of_gt (Nat.lt_trans nz hb)) (Nat.ne_of_gt (Nat.lt_trans nO hb)) (Nat.ne_of_gt (Nat.lt_trans np hb)) (Nat.ne_of_gt (Nat.lt_trans nq hb)) e)
theorem wk_zipNoLen : typeLookup (.type "zip") "__len__" = pure none := by rw [typeLookup_type, builtinLookup_eq_fast]; kernel_rfl
theorem wk_zipNoHint : typeLookup (.type "zip") "__length_hint__" = pure none := by rw [typeLookup_type, builtinLookup_eq_fast]; kernel_rfl
theorem wk_zipHint {z : Addr} {Qr : Bool → Shared → Prop} (ty : st.TypeIs (.ref z) "zip") (h : Qr true st) : wpAny (model pg wd) Ar (Builtin.List.listLengthHint (.ref z)) Qr Er st := by
  unfold Builtin.List.listLengthHint
  refine wpAny_bind (wpAny_specialOf ty wk_zipNoLen ?_)
  show wpAny _ Ar (specialOf (Value.ref z) (Str.ofString "__length_hint__") >>= _) _ _ _
  exact wpAny_bind (wpAny_specialOf ty wk_zipNoHint (wpAny_pure h))
/-- list(z), z a new zip of two tuples -/
theorem wk_listZip {z TI TO p q a b : Addr} {us vs : Array Value} {Qr : Value → Shared → Prop} (hh : Ar.handled = none) (ap : ZipApart z TI TO p q a b) (zz : IsZip st.heap z TI TO .none) (ti : IsPair st.heap TI (.ref p) (.ref q)) (tO : IsPair st.heap TO .none .none) (ip : st.heap.IsTupleIter p a 0) (iq : st.heap.IsTupleIter q b 0)
    (ta : st.heap.IsTuple a us) (tb : st.heap.IsTuple b vs) (bound : us.size ≤ sizeLine) (kk : ∀ g tk acc c l, (∀ b' o, b' ≠ z → b' ≠ TO → b' ≠ p → b' ≠ q → st.heap.get? b' = some o → g.get? b' = some o) → g.get? st.heap.objs.size = some { cls := .type "list", dict := none, data := .seq acc c, slots := #[] } → l.length = min us.size vs.size → WkPs us vs st.heap.objs.size g l → acc.toList = l.map Value.ref → Qr (.ref st.heap.objs.size) { st with heap := g, toks := tk }) :
    wpAny (model pg wd) Ar (call (.type "list") [.ref z]) Qr Er st := by
  refine callType_codes (Q₁ := fun obj s1 => obj = .ref st.heap.objs.size ∧ s1 = { st with heap := st.heap.push { cls := .type "list", data := .seq #[] } }) PySem.F.called_list (PySem.F.typeCall_list_1 _) PySem.F.entry_list_init (code_list_new _ ⟨rfl, rfl⟩) fun obj s1 w => ?_
  obtain ⟨rfl, rfl⟩ := w
  have hS0 : (st.heap.push { cls := .type "list", data := .seq #[] }).get? st.heap.objs.size = some { cls := .type "list", data := .seq #[] } := Heap.get?_push_size _ rfl
  refine ⟨⟨_, hS0, rfl⟩, PySem.F.args_list_init_2 _ _, ?_⟩
  have lz := Heap.lt_size zz
  have lI := Heap.lt_size ti
  have lO := Heap.lt_size tO
  have lp : p < st.heap.objs.size := by obtain ⟨_, e, _⟩ := ip; exact Heap.lt_size e
  have lq : q < st.heap.objs.size := by obtain ⟨_, e, _⟩ := iq; exact Heap.lt_size e
  have la : a < st.heap.objs.size := by obtain ⟨_, e, _⟩ := ta; exact Heap.lt_size e
  have lb : b < st.heap.objs.size := by obtain ⟨_, e, _⟩ := tb; exact Heap.lt_size e
  generalize hG : st.heap.objs.size = S at hS0 lz lI lO lp lq la lb kk ⊢
  have up0 : ∀ b' o, b' ≠ S → st.heap.get? b' = some o → (st.heap.push { cls := .type "list", data := .seq #[] }).get? b' = some o := fun b' o _ e => Heap.get?_push_of_some _ e
  have run : ∀ (g : Heap) (tk c : Nat), (∀ b' o, b' ≠ S → st.heap.get? b' = some o → g.get? b' = some o) → g.get? S = some { cls := .type "list", dict := none, data := .seq #[] c, slots := #[] } → codeAny (model pg wd) Ar.in1 (.builtin "list.extend.loop" ⟨[.ref S, .ref z, .none], []⟩) (wants (fun r s2 => r = .none ∧ Qr (.ref S) s2) Er) { st with heap := g, toks := tk } := by
    intro g tk c kg gS
    refine wk_zipLoop (st := st) (h1 := st.heap) (Ar := Ar.in1) (us := us) (vs := vs) hh ap lz lI lO lp lq la lb bound .none (fun g' tk' acc c' l k1 k2 k3 k4 k5 => ?_) _ 0 g tk c #[] [] rfl (Nat.zero_le _) ⟨kg _ _ (Nat.ne_of_lt lI) ti, ip.at fun o e => kg _ o (Nat.ne_of_lt lp) e, iq.at fun o e => kg _ o (Nat.ne_of_lt lq) e, .inl ⟨kg _ _ (Nat.ne_of_lt lz) zz, _, _, kg _ _ (Nat.ne_of_lt lO) tO⟩⟩
      (ta.at fun o e => kg _ o (Nat.ne_of_lt la) e) (tb.at fun o e => kg _ o (Nat.ne_of_lt lb) e) (fun b' o n0 _ _ _ _ e => kg b' o n0 e) gS rfl rfl ⟨List.Pairwise.nil, (fun x hx => nomatch hx), fun j x hj => by rw [List.getElem?_nil] at hj; cases hj⟩
    refine ⟨rfl, kk g' tk' acc c' l (fun b' o n1 n2 n3 n4 e => k1 b' o (fun w => ?_) n1 n2 n3 n4 e) k2 k3 k4 k5⟩
    have w2 := Heap.lt_size e
    rw [w, hG] at w2
    exact Nat.lt_irrefl _ w2
  show wpAny _ _ (do let old ← Builtin.List.listItems (.ref S); Builtin.List.listUpdate (.ref S) (fun _ => #[]); letGo old.toList.reverse; Builtin.List.listExtendWith (.ref S) (.ref z) .none) _ _ _
  refine wpAny_bind ?_
  unfold Builtin.List.listItems
  refine wpAny_bind (wpAny_seqItems hS0 rfl (wpAny_pure ?_))
  show wpAny _ _ (updateSeq S (fun _ => #[]) >>= fun _ => letGo (#[] : Array Value).toList.reverse >>= fun _ => Builtin.List.listExtendWith (.ref S) (.ref z) .none) _ _ _
  refine wpAny_bind (wpAny_updateSeq hS0 rfl ?_)
  have hS2 := Heap.get?_update_self (Obj.mapSeq (fun _ => (#[] : Array Value))) hS0 rfl
  have up2 : ∀ b' o, b' ≠ S → st.heap.get? b' = some o → ((st.heap.push { cls := .type "list", data := .seq #[] }).update S (Obj.mapSeq (fun _ => (#[] : Array Value)))).get? b' = some o := fun b' o n e => (Heap.get?_update_other _ _ (Ne.symm n)).trans (up0 b' o n e)
  refine wpAny_bind (wpAny_letGo ?_)
  unfold Builtin.List.listExtendWith
  have zz2 := up2 _ _ (Nat.ne_of_lt lz) zz
  refine wpAny_bind (wpAny_typeOf (T := "zip") ⟨_, zz2, rfl⟩ ?_)
  have c1 : Builtin.List.listSameRef (.ref S) (.ref z) = false := by simp [Builtin.List.listSameRef, Nat.ne_of_gt lz]
  have c2 : (Value.type "zip" == Value.type "list") = false := by decide
  have c3 : (Value.type "zip" == Value.type "tuple") = false := by decide
  simp only [c1, c2, c3, Bool.or_false, Bool.false_eq_true, if_false]
  refine wpAny_bind (wpAny_pyIter_zip zz2 (wpAny_bind (wpAny_holding (wk_zipHint ⟨_, zz2, rfl⟩ ?_))))
  refine wpAny_bind (wpAny_rule (wpAny_bind ?_))
  show wpAny _ _ (updateSeq S (·.push .none) >>= fun _ => updateSeq S (·.pop)) _ _ _
  refine wpAny_bind (wpAny_updateSeq hS2 rfl ?_)
  have hS3 := Heap.get?_update_self (Obj.mapSeq (·.push Value.none)) hS2 rfl
  refine wpAny_updateSeq (hz := by seq_fits) hS3 rfl ?_
  have hS4 := Heap.get?_update_self (Obj.mapSeq (·.pop)) hS3 rfl
  exact wpAny_pure ⟨plainId_quiet PySem.F.plain_extend_loop _, run _ _ _ (fun b' o n e => (Heap.get?_update_other _ _ (Ne.symm n)).trans ((Heap.get?_update_other _ _ (Ne.symm n)).trans (up2 b' o n e))) hS4⟩
end
end PySem
/-! WKZip2 -/
set_option Elab.async false
set_option linter.all false
set_option maxRecDepth 100000
set_option maxHeartbeats 1000000
/-! list(zip(a, b)) as a reading -/
namespace WK
open PySem PySem.Spec PyProof.Rows L2
theorem wk_valsAt : ∀ {xs : List V} {us : List Value} {j : Nat} {u : Value}, Vals xs us → us[j]? = some u → ∃ x, xs[j]? = some x ∧ RelV x u
  | _, _, _, _, .nil, h => by simp at h
  | _, _, 0, _, .cons r _, h => by
    have e := Option.some.inj h
    subst e
    exact ⟨_, rfl, r⟩
  | _, _, j + 1, _, .cons _ t, h => by
    obtain ⟨x, e, r⟩ := wk_valsAt (j := j) t (by simpa using h)
    exact ⟨x, by simpa using e, r⟩
def tLz (K : PySem.W.Frag) (ta : TA) : TE := fun σ H Q => ta σ H fun vs H1 => ∃ (al bl : Addr) (xs ys : List V), vs = [.ref al, .ref bl] ∧ SqT K H1 al xs ∧ SqT K H1 bl ys ∧ ∀ (H2 : Hp) (p : Addr) (ts : List Addr), Ex H1 H2 → H1 p = none → H2 p = some (.lst (ts.map V.ref)) → ts.length = min xs.length ys.length →
  (∀ (j : Nat) (t : Addr), ts[j]? = some t → ∃ x y, xs[j]? = some x ∧ ys[j]? = some y ∧ H2 t = some (.tup [x, y])) → Q (.ref p) H2
theorem pe_listZip {X : Cx} {a b : Expr} {ta : TA} {p p2 pos pos2 : Pos} (hc : X.calm = true) (hg : Gl X "list") (hm : X.mg "list" = none) (hg2 : Gl X "zip") (hm2 : X.mg "zip" = none) (ha : PA X [a, b] ta)
    (na : starEach [a, b] X.env = (false, eval a X.env) :: starEach [b] X.env) (nb : (backTo pos2 (starEach [b] X.env)).any (·.1) = false) : PE X (.Call (.Name "list" p) [.Call (.Name "zip" p2) [a, b] [] pos2] [] pos) (tLz X.K ta) := by
  refine ⟨fun pins s σ H Q I h => ?_⟩
  have ns : starEach [.Call (.Name "zip" p2) [a, b] [] pos2] X.env = (false, eval (.Call (.Name "zip" p2) [a, b] [] pos2) X.env) :: starEach [] X.env := rfl
  refine Call_ (ld_blt I hg hm boot_list (PyProof.Rows.callWith_type1 (args_cons (Call_ (ld_blt I hg2 hm2 PyProof.Rows.boot_zip (PyProof.Rows.callWith_type1 (thn (ha.run pos2 pins s σ H _ I h) fun us s1 q1 => ?_) na nb))) ns) ns rfl))
  obtain ⟨vs, H1, I1, r1, al, bl, xs, ys, ex, qx, qy, q⟩ := q1
  subst ex
  cases r1 with
  | cons r rr =>
  cases rr with
  | cons r' rr =>
  cases rr
  cases r
  cases r'
  obtain ⟨its, rv, p1, z1⟩ := I1.tuple qx
  obtain ⟨its2, rv2, p2', _⟩ := I1.tuple qy
  obtain ⟨o1, ho1, _⟩ := id p1
  obtain ⟨o2, ho2, _⟩ := id p2'
  refine RZ.call_zipT (show s1.heap.IsTuple al its.toArray from p1) (show s1.heap.IsTuple bl its2.toArray from p2') fun h1 hz hTI hTO i1 i2 hsz hk => args_nil ?_
  have ap := PySem.W.ktu_apart s1.heap.objs.size al bl (Heap.lt_size ho1) (Heap.lt_size ho2)
  have tup : ∀ {c : Addr} {u : Array Value}, s1.heap.IsTuple c u → h1.IsTuple c u := fun t => t.at fun o e => hk _ o e
  refine wk_listZip (st := { s1 with heap := h1 }) (I1.ok.hd hc) ap hz hTI hTO i1 i2 (tup p1) (tup p2') (by rw [List.size_toArray, ← rv.length]; exact z1) fun g tk acc c l k1 k2 k3 k4 k5 => ?_
  have old : ∀ b o, s1.heap.get? b = some o → g.get? b = some o := fun b o e => by
    have lt := Heap.lt_size e
    exact k1 b o (Nat.ne_of_lt (Nat.lt_add_right _ lt)) (Nat.ne_of_lt (Nat.lt_add_right _ lt)) (Nat.ne_of_lt lt) (Nat.ne_of_lt (Nat.lt_add_right _ lt)) (hk b o e)
  dsimp only at k2 k4
  have I2 : Inv X pins σ H1 { s1 with heap := g, toks := tk } := I1.kept (t' := tk) old
  have hle : s1.heap.objs.size ≤ h1.objs.size := by rw [hsz]; exact Nat.le_add_right _ _
  have hn : H1 h1.objs.size = none := I1.hok.fresh hle
  have lenl : l.length = min xs.length ys.length := by
    rw [k3, List.size_toArray, List.size_toArray, rv.length, rv2.length]
  have rvl : Vals (l.map V.ref) acc.toList := by
    rw [k5]
    exact vals_refs l
  have ok1 : ObjOk X.prog X.w (upd H1 h1.objs.size (.lst (l.map V.ref))) g h1.objs.size (.lst (l.map V.ref)) := ⟨by rw [List.length_map, lenl]; exact Nat.le_trans (Nat.min_le_left _ _) z1, acc.toList, c, rvl, by rw [Array.toArray_toList]; exact k2⟩
  have I3 : Inv X pins σ (upd H1 h1.objs.size (.lst (l.map V.ref))) { s1 with heap := g, toks := tk } := I2.take (h' := g) (t' := tk) (fun b ob _ e => e) (I1.fpOk hle hn) ok1
  obtain ⟨H2, I4, gr, qt⟩ := DX.takeT (P := fun t vs => ∃ (j : Nat) (x y : V), l[j]? = some t ∧ xs[j]? = some x ∧ ys[j]? = some y ∧ vs = [x, y]) I1 l _ I3 (List.Pairwise.imp (fun w => Nat.ne_of_lt w) k4.rise) fun t ht => by
    obtain ⟨j, hj⟩ := List.mem_iff_getElem?.mp ht
    obtain ⟨u, v, e1, e2, e3⟩ := k4.pair j t hj
    have ab := k4.above t ht
    obtain ⟨x, hx, rx⟩ := wk_valsAt rv (by simpa using e1)
    obtain ⟨y, hy, ry⟩ := wk_valsAt rv2 (by simpa using e2)
    refine ⟨Nat.le_of_lt (Nat.lt_of_le_of_lt hle ab), ?_, [x, y], ⟨j, x, y, hj, hx, hy, rfl⟩, fun H3 => ⟨by show 2 ≤ sizeLine; decide, [u, v], .cons rx (.cons ry .nil), ⟨_, e3, rfl, _, rfl⟩⟩⟩
    rw [upd_ne (Nat.ne_of_gt ab)]
    exact I1.hok.fresh (Nat.le_of_lt (Nat.lt_of_le_of_lt hle ab))
  refine ⟨.ref h1.objs.size, H2, I4, rfl, q H2 h1.objs.size l (fun b o e => gr b o (by rw [upd_ne (ne_of_none e hn)]; exact e)) hn (gr _ _ upd_same) lenl fun j t hj => ?_⟩
  obtain ⟨vs, ⟨i, x, y, w1, w2, w3, w4⟩, w5⟩ := qt t (List.mem_of_getElem? hj)
  have nd : l.Nodup := List.Pairwise.imp (fun w => Nat.ne_of_lt w) k4.rise
  have eij : i = j := (List.getElem?_inj (List.getElem?_eq_some_iff.mp w1).1 nd).mp (w1.trans hj.symm)
  subst eij
  exact ⟨x, y, w2, w3, by rw [← w4]; exact w5⟩
section
variable {X : Cx} {k : Nat} {a b : Expr} {env : Nv} {H : Hp} {xs ys : List PyData} {pos p pos2 p2 : Pos} {sc : Scope}
theorem el_listZip (A : Hs X k) (hs : X.env.scope = sc) (ha : EvD X a env H (.tuple xs)) (hb : EvD X b env H (.tuple ys)) (hg : glB sc "list" = true := by decide +kernel) (hg2 : glB sc "zip" = true := by decide +kernel) (hp : plainE a = true := by rfl) (hp2 : plainE b = true := by rfl) :
    EvL X (.Call (.Name "list" p) [.Call (.Name "zip" p2) [a, b] [] pos2] [] pos) env H (zipD xs ys) := ⟨fun σ H1 e0 ok Q q => by
  refine ⟨_, pe_listZip A.calm (gl_of hs hg) (A.t.free (by decide +kernel)) (gl_of hs hg2) (A.t.free (by decide +kernel)) pa_w (star_of hp) (plain_of (by simp [hp2])), (ea_cons ha (ea_cons hb ea_nil hp2) hp).run σ H1 e0 ok _ fun vs H2 e2 r => ?_⟩
  cases r with
  | cons r1 r2 =>
  cases r2 with
  | cons r2 r3 =>
  cases r3
  cases r1 with
  | @tup al vl _ h1 q1 =>
  cases r2 with
  | @tup bl ul _ h2 q2 =>
  refine ⟨al, bl, vl, ul, rfl, SqT.of h1, SqT.of h2, fun H3 l ts e3 hl h3 hlen hpr => q l H3 (e2.back hl) (e2.trans e3) ⟨_, h3, ?_⟩⟩
  have key : ∀ (ts : List Addr) (vl ul : List V) (xs ys : List PyData), RpA H2 vl xs → RpA H2 ul ys → ts.length = min vl.length ul.length → (∀ (j : Nat) (t : Addr), ts[j]? = some t → ∃ x y, vl[j]? = some x ∧ ul[j]? = some y ∧ H3 t = some (.tup [x, y])) → RpA H3 (ts.map V.ref) (zipD xs ys) := by
    intro ts
    induction ts with
    | nil =>
      intro vl ul xs ys w1 w2 w3 _
      have w3 : 0 = min vl.length ul.length := w3
      rw [w1.len, w2.len] at w3
      cases xs with
      | nil => exact .nil
      | cons x xs =>
        cases ys with
        | nil => exact .nil
        | cons y ys =>
          simp only [List.length_cons] at w3
          omega
    | cons t ts ih =>
      intro vl ul xs ys w1 w2 w3 w4
      cases w1 with
      | nil =>
        simp only [List.length_cons, List.length_nil] at w3
        omega
      | @cons v vl x xs c1 c2 =>
        cases w2 with
        | nil =>
          simp only [List.length_cons, List.length_nil] at w3
          omega
        | @cons u ul y ys d1 d2 =>
          obtain ⟨x', y', f1, f2, f3⟩ := w4 0 t rfl
          cases f1
          cases f2
          refine .cons (.tup f3 (.cons (c1.mono e3.t) (.cons (d1.mono e3.t) .nil))) (ih vl ul xs ys c2 d2 (by simp only [List.length_cons] at w3; omega) fun j t' hj => ?_)
          obtain ⟨x', y', f1, f2, f3⟩ := w4 (j + 1) t' (by simpa using hj)
          exact ⟨x', y', by simpa using f1, by simpa using f2, f3⟩
  exact key ts vl ul xs ys q1 q2 hlen hpr⟩
end
end WK
/-! WKVal -/
set_option Elab.async false
set_option linter.all false
set_option maxRecDepth 100000
set_option maxHeartbeats 1000000
/-! Values that are no data: told by a property. -/
namespace WK
open PySem PySem.Spec PyProof.Rows L2
structure EvS (X : Cx) (e : Expr) (env : Nv) (H : Hp) (S : V → Hp → Prop) : Prop where
  run : ∀ σ H1, Ex H H1 → NvOk X H1 σ env → ∀ Q : VK, (∀ v H2, Ex H1 H2 → S v H2 → Q v H2) → wE X e σ H1 Q
/-- all but lists and what is locked stays -/
def ExN (H H' : Hp) : Prop := ∀ b o, H b = some o → (∀ xs, o ≠ .lst xs) → (∀ od u, o ≠ .frz od u) → H' b = some o
theorem Ex.n {H H' : Hp} (e : Ex H H') : ExN H H' := fun b o h _ _ => e b o h
inductive SA (S : PyData → V → Hp → Prop) (H : Hp) : List PyData → List V → Prop
  | nil : SA S H [] []
  | cons {d : PyData} {v : V} {ds : List PyData} {vs : List V} : S d v H → SA S H ds vs → SA S H (d :: ds) (v :: vs)
theorem SA.mono {S : PyData → V → Hp → Prop} {H H' : Hp} (st : ∀ d v, S d v H → S d v H') : ∀ {ds : List PyData} {vs : List V}, SA S H ds vs → SA S H' ds vs
  | _, _, .nil => .nil
  | _, _, .cons h t => .cons (st _ _ h) (t.mono st)
theorem SA.snoc {S : PyData → V → Hp → Prop} {H : Hp} {d : PyData} {v : V} : ∀ {ds : List PyData} {vs : List V}, SA S H ds vs → S d v H → SA S H (ds ++ [d]) (vs ++ [v])
  | _, _, .nil, g => .cons g .nil
  | _, _, .cons h t, g => .cons h (t.snoc g)
theorem SA.len {S : PyData → V → Hp → Prop} {H : Hp} : ∀ {ds : List PyData} {vs : List V}, SA S H ds vs → vs.length = ds.length
  | _, _, .nil => rfl
  | _, _, .cons _ t => congrArg Nat.succ t.len
/-- a new list of such values -/
structure EvLV (X : Cx) (e : Expr) (env : Nv) (H : Hp) (S : PyData → V → Hp → Prop) (ds : List PyData) : Prop where
  run : ∀ σ H1, Ex H H1 → NvOk X H1 σ env → ∀ Q : VK, (∀ p H2 vs, H1 p = none → Ex H1 H2 → H2 p = some (.lst vs) → SA S H2 ds vs → Q (.ref p) H2) → wE X e σ H1 Q
section
variable {X : Cx} {k : Nat} {e a b c it tg elt : Expr} {es : List Expr} {env env' env1 : Nv} {H : Hp} {D : Ends} {d x y : PyData} {ds items : List PyData} {pos p : Pos} {sc scope : Scope} {own : List (Str × Nat)} {owx : List Addr} {rest : List Stmt} {l : Addr} {kvs : List (List Int × V)}
theorem el_lcV (S : PyData → V → Hp → Prop) (st : ∀ d v H H', ExN H H' → S d v H → S d v H') (A : Hs X k) (hs : X.env.scope = sc) (hi : EvI X tg it env H items owx) (hz : items.length ≤ 100000) {N : List Str} (hN : env.map (·.1) = N) (ok : ownC sc scope N own = true) (cap : Cap (relS scope sc) (own.map (·.2)) 0 env env1)
    (turn : ∀ d ∈ items, ∃ env2, Tgt tg d env1 own env2 ∧ ∀ X', Hs X' k → X'.env.scope = relS scope sc → EvS X' elt env2 H (S d))
    (hf : ∀ x, foldedSetIterable it X.env x = pure x := by intro _; rfl) : EvLV X (.ListComp elt [⟨tg, it, [], 0⟩] scope pos) env H S items := ⟨fun σ H1 e0 okk Q q => by
  subst hs hN
  obtain ⟨ok1, ok2⟩ := Bool.and_eq_true_iff.mp ok
  rw [← okk.names] at ok1
  refine ⟨_, pe_lc (g := gB X scope tg) (tt := tB X scope []) (te := eB X scope elt) A.calm A.nd pi_w (blkOk_by ok1) pgB ptB peB hf, ?_⟩
  refine hi.run σ H1 e0 okk _ fun J H2 o e2 ho I => fun Dl hD => ?_
  have hex := e0.trans e2
  refine lc_it (g := gB X scope tg) (tt := tB X scope []) (te := eB X scope elt) (vs := own.map (·.2)) (σ := σ) (Qd := Q (.ref Dl)) I.walk (fun i H' => Ex H2 H' ∧ ∃ vs, H' Dl = some (.lst vs) ∧ SA S H' (items.take i) vs) ⟨Ex.new hD, [], upd_same, .nil⟩ (fun i H' _ p => ⟨p.1.t, fun b hb => ?_⟩) ?_ (fun H' p => ?_)
  · obtain ⟨u, hu⟩ := (ho b hb).2
    rw [hu]
    exact p.1 _ _ hu
  · rintro i x H' H'' hi' ⟨p1, ws, p2, p3⟩ ⟨ex, d, hd, r⟩
    have hEx : Ex H H'' := (hex.trans p1).trans ex
    obtain ⟨env2, T, tr⟩ := turn d (List.mem_of_getElem? hd)
    intro s0 H0 C cl fp
    have nvok : NvOk (X.blk s0 H0 scope (compEnvC scope cl C X.env) fp) H'' (wipe σ (own.map (·.2))) env1 := by
      refine ⟨okk.names.trans cap.names.symm, cap.sl (okk.sl.mono ((e2.trans p1).trans ex).t) (wipe_length _ _) (fun j hj => ?_), cap.vis⟩
      rw [wipe_get, if_neg]
      rintro ⟨z, _⟩
      rw [Nat.zero_add, List.contains_iff_mem.mpr z] at hj
      cases hj
    refine T.w (X := X.blk s0 H0 scope (compEnvC scope cl C X.env) fp) A.calm A.nd nvok (blk_loc ok2) r fun σ2 ok3 off => ⟨off.wipe, ?_⟩
    intro s1 H5 C1 cl1 fp1
    refine (ts_nil (X := X.blk s1 H5 scope (compEnvC scope cl1 C1 X.env) fp1) (H := H'') (env := env2)).run σ2 H'' (Ex.refl _) (ok3.to rfl rfl) _ fun H3 e3 => ?_
    rw [if_pos rfl]
    intro s6 H6 C6 cl6 fp6
    refine (tr _ (A.blk s6 H6 cl6 C6 fp6) rfl).run σ2 H3 (hEx.trans e3) (NvOk.mono e3.t (NvOk.to (Z := X.blk s6 H6 scope (compEnvC scope cl6 C6 X.env) fp6) ok3 rfl rfl)) _ fun y H4 e4 r4 => ?_
    have eAll := (ex.trans e3).trans e4
    have hl := eAll _ _ p2
    have t4 : ExN H4 (upd H4 Dl (.lst (ws ++ [y]))) := fun b o hb n1 _ => by
      rw [upd_ne]
      · exact hb
      · intro z
        rw [z, hl] at hb
        exact n1 ws (Option.some.inj hb).symm
    refine ⟨ws, hl, ?_, fun b u hb => ?_, ws ++ [y], upd_same, ?_⟩
    · rw [p3.len, List.length_take]
      have h6 : sizeLine = 16777216 := sizeLine_eq
      omega
    · rw [upd_ne (ne_of_none hb hD)]
      exact eAll _ _ (p1 _ _ hb)
    · rw [List.take_add_one, hd]
      exact SA.mono (fun d v z => st d v _ _ t4 z) ((p3.mono fun d v z => st d v _ _ eAll.n z).snoc r4)
  · obtain ⟨p1, ws, p2, p3⟩ := p
    rw [List.take_of_length_le (Nat.le_refl _)] at p3
    exact q Dl H' ws (e2.back hD) (e2.trans p1) p2 p3⟩
/-- .. over the dict at l -/
theorem el_lockV (S : PyData → V → Hp → Prop) (st : ∀ d v H H', ExN H H' → S d v H → S d v H') (h : H l = some (.dT (dkv kvs))) (he : ∀ od, EvLV X e env (lockH H l od (.dT (dkv kvs))) S ds) : EvLV X e env H S ds := ⟨fun σ H1 e0 ok Q q => by
  have h1 := e0 _ _ h
  refine ⟨_, pe_lock pe_w, l, .dT (dkv kvs), h1, True.intro, fun od => ?_⟩
  have t1 : TLe H1 (lockH H1 l od (.dT (dkv kvs))) := lock_t h1 fun xs z => nomatch z
  refine (he od).run σ _ (lock_ex e0) (ok.mono t1) _ fun p H2 vs hp e2 hl hv => ?_
  have h2 : H2 l = some (.frz od (.dT (dkv kvs))) := e2 _ _ upd_same
  have npl : p ≠ l := by
    intro z
    unfold lockH at hp
    rw [z, upd_same] at hp
    cases hp
  have t2 : ExN H2 (upd H2 l (.dT (dkv kvs))) := fun b o hb _ n2 => by
    rw [upd_ne]
    · exact hb
    · intro z
      rw [z, h2] at hb
      exact n2 _ _ (Option.some.inj hb).symm
  refine ⟨h2, q p _ vs ?_ (unlock_ex h1 e2) (by rw [upd_ne npl]; exact hl) (hv.mono fun d v z => st d v _ _ t2 z)⟩
  unfold lockH at hp
  rw [upd_ne npl] at hp
  exact hp⟩
/-- x = such a value -/
theorem go_setS {i : Nat} {n : Str} {p' : Pos} {nv : V → Nv} {S : V → Hp → Prop} (A : Hs X k) (h : EvS X e env H S) (hp : ∀ v, Put env i n (.v v) (nv v)) (hl : LocN X n) (q : ∀ v H1, Ex H H1 → S v H1 → Go X rest (nv v) H1 D) (hs : swapsWith e (some (.Name n p')) pos.line X.env = pure false := by rfl) :
    Go X (.Assign [.Name n p'] e pos :: rest) env H D := ⟨fun σ H1 e0 ok =>
  ⟨_, pss_cons (ps_set A.nd (by rw [ok.names]; exact (hp .non).name.1) hl.loc pe_w hs hl.fn) pb_w, h.run σ H1 e0 ok _ fun v H2 e2 r => (q v H2 (e0.trans e2) r).run _ H2 (Ex.refl _) ((ok.mono e2.t).put (hp v) rfl hl.vis)⟩⟩
theorem go_retS {S : V → Hp → Prop} (h : EvS X e env H S) (q : ∀ v H1, Ex H H1 → S v H1 → D.rt v H1) : Go X (.Return (some e) p :: rest) env H D := ⟨fun σ H1 e0 ok =>
  ⟨_, pss_cons (ps_ret pe_w) pss_never, h.run σ H1 e0 ok _ fun v H2 e2 r => q v H2 (e0.trans e2) r⟩⟩
end
end WK
/-! WKGr -/
set_option Elab.async false
set_option linter.all false
set_option maxRecDepth 100000
set_option maxHeartbeats 1000000
/-! boxes.py: is_greatest, greatest_by -/
namespace WK
open PySem PySem.Spec PyProof.Rows L2
/-- for each key the keys filled from it -/
structure FldV (H : Hp) (ks : List (List Int)) (kvs : List (List Int × V)) : Prop where
  keys : kvs.map (·.1) = ks
  val : ∀ low v, (low, v) ∈ kvs → ∃ b, v = .ref b ∧ Rd H b (.dT (dkv (tr (filledFrom ks low))))
theorem FldV.ex {H H' : Hp} {ks : List (List Int)} {kvs : List (List Int × V)} (h : FldV H ks kvs) (e : Ex H H') : FldV H' ks kvs := ⟨h.keys, fun low v hm => by
  obtain ⟨b, h1, h2⟩ := h.val low v hm
  exact ⟨b, h1, rd_ex h2 e⟩⟩
theorem FldV.get {H : Hp} {ks : List (List Int)} {kvs : List (List Int × V)} (h : FldV H ks kvs) (nd : ks.Nodup) {low : List Int} (hm : low ∈ ks) : ∃ b, getI kvs low = some (.ref b) ∧ Rd H b (.dT (dkv (tr (filledFrom ks low)))) := by
  rw [← h.keys] at hm
  obtain ⟨p, hp, e⟩ := List.mem_map.mp hm
  obtain ⟨b, h1, h2⟩ := h.val p.1 p.2 hp
  subst e
  refine ⟨b, ?_, h2⟩
  rw [← h1]
  exact getI_mem (by rw [h.keys]; exact nd) hp
theorem FldV.none {H : Hp} {ks : List (List Int)} {kvs : List (List Int × V)} (h : FldV H ks kvs) {low : List Int} (hm : low ∉ ks) : getI kvs low = .none := getI_none.mpr (by rw [h.keys]; exact hm)
def gr1 (ks : List (List Int)) (low high : List Int) (t : Nat) : Bool := decide (moved high t 1 ∈ filledFrom ks low)
def gr2 (ks : List (List Int)) (low high : List Int) (t : Nat) : Bool := decide (moved low t (-1) ∈ ks) && decide (high ∈ filledFrom ks (moved low t (-1)))
def isGreatest (ks : List (List Int)) (low high : List Int) : Bool := (List.range low.length).all fun t => !gr1 ks low high t && !gr2 ks low high t
def SpGr : Sp := fun vs H Q _ => ∃ f v1 v2 kvs ks low high n, vs = [.ref f, v1, v2] ∧ Rd H f (.dT (dkv kvs)) ∧ FldV H ks kvs ∧ Rp H v1 (kD low) ∧ Rp H v2 (kD high) ∧ low.length = n ∧ high.length = n ∧ n ≤ 100 ∧ low ∈ ks ∧ ks.Nodup ∧ ∀ H', Ex H H' → Q (.bl (isGreatest ks low high)) H'
theorem len_is_greatest : ∀ vs H Q E, SpGr vs H Q E → vs.length = (["filled", "low", "high"] : List Str).length := by
  rintro vs H Q E ⟨f, v1, v2, kvs, ks, low, high, n, rfl, _⟩
  rfl
theorem moved_len (key : List Int) (t : Nat) (b : Int) : (moved key t b).length = key.length := by unfold moved; rw [List.length_set]
theorem sc_is_greatest : FnScope ((["filled", "low", "high"] : List Str) ++ (["tooth"] : List Str)) ["filled", "low", "high"] (defScope (top 41)) := fnScope_by (by decide +kernel)
instance : HasCal "is_greatest" 2 ["filled", "low", "high"] SpGr := ⟨fun P w K mg T => by
  refine Cal.mk' T (i := 41) (N := (["filled", "low", "high"] : List Str) ++ (["tooth"] : List Str)) (List.mem_of_getElem? (i := 12) rfl) (by decide +kernel) sc_is_greatest (fun _ _ _ _ _ _ us hl => match us, hl with | [_, _, _], _ => rfl) len_is_greatest fun X A hs hN hf vs H Q E h => ?_
  obtain ⟨f, v1, v2, kvs, ks, low, high, n, rfl, hf0, hfv0, r1, r2, l1, l2, hn, hlow, hnd, hq⟩ := h
  have zl : (zD low).length = n := by rw [zD_len]; exact l1
  have g : Go X (defBody (top 41)) ([("filled", .v (.ref f)), ("low", .d (kD low)), ("high", .d (kD high)), ("tooth", .un)] : Nv) H { nx := fun _ H' => Q .non H', rt := Q } := by
    refine go_forP (fun i nv => (∃ s1, nv = ([("filled", .v (.ref f)), ("low", .d (kD low)), ("high", .d (kD high)), ("tooth", s1)] : Nv)) ∧ ∀ j < i, (!gr1 ks low high j && !gr2 ks low high j) = true) A (ei_range A hs (by decide +kernel) (ed_len A hs (ed_var (.next (.here)) hs (by decide +kernel))) (by first | omega | decide)) ⟨⟨_, rfl⟩, fun j hj => by omega⟩ ?_ ?_
    · rintro i d nv H' hd ⟨⟨s1, rfl⟩, hb⟩ e1
      have hi : i < n := by
        have := (List.getElem?_eq_some_iff.mp hd).1
        rw [rangeD_len] at this
        omega
      obtain rfl : PyData.int (i : Int) = d := by
        unfold rangeD at hd
        rw [List.getElem?_map, List.getElem?_range (by omega)] at hd
        exact Option.some.inj hd
      have hf1 := rd_ex hf0 e1
      have hfv := hfv0.ex e1
      obtain ⟨b1, hb1, hb2⟩ := hfv.get hnd hlow
      refine ⟨_, _, .name (.next (.next (.next (.here)))), fun q hq => locN hf hs (by simp at hq; rcases hq with rfl; decide +kernel), ?_⟩
      refine go_when ((et_din A (ed_call A hs (ea_cons (ed_var (.next (.next (.here))) hs (by decide +kernel)) (ea_cons (ed_var (.next (.next (.next (.here)))) hs (by decide +kernel)) (ea_cons ed_int ea_nil))) (R_moved_end.mk high i 1 (by omega) (by omega))) (dc_var (ev_dget A (dc_var (ev_var .here hs (by decide +kernel)) hf1) (ed_var (.next (.here)) hs (by decide +kernel)) hb1) hb2)).is (c := gr1 ks low high i) (by rw [tr_has]; rfl)) (fun ht => ?_) fun ht => ?_
      · refine go_ret ed_bl fun v H2 e2 r => ?_
        cases r
        have e3 : isGreatest ks low high = false := by
          unfold isGreatest
          rw [List.all_eq_false]
          exact ⟨i, List.mem_range.mpr (by omega), by rw [ht]; simp⟩
        have := hq H2 (e1.trans e2)
        rw [e3] at this
        exact this
      have hml : (moved low i (-1)).length = n := by rw [moved_len]; exact l1
      have key : ∃ kv2, ((∃ b, getI kvs (moved low i (-1)) = some (.ref b) ∧ Rd H' b (.dT (dkv kv2))) ∨ (getI kvs (moved low i (-1)) = none ∧ kv2 = [])) ∧ (getI kv2 high).isSome = gr2 ks low high i := by
        by_cases hm : moved low i (-1) ∈ ks
        · obtain ⟨b2, c1, c2⟩ := hfv.get hnd hm
          exact ⟨_, .inl ⟨b2, c1, c2⟩, by rw [tr_has]; unfold gr2; rw [decide_eq_true hm, Bool.true_and]⟩
        · exact ⟨[], .inr ⟨hfv.none hm, rfl⟩, by unfold gr2; rw [decide_eq_false hm, Bool.false_and]; rfl⟩
      obtain ⟨kv2, k1, k2⟩ := key
      refine go_when ((et_din A (ed_var (.next (.next (.here))) hs (by decide +kernel)) (dc_get2 A (dc_var (ev_var .here hs (by decide +kernel)) hf1) (ed_call A hs (ea_cons (ed_var (.next (.here)) hs (by decide +kernel)) (ea_cons (ed_var (.next (.next (.next (.here)))) hs (by decide +kernel)) (ea_cons (ed_neg ed_int) ea_nil))) (R_moved_end.mk low i (-1) (by omega) (by omega))) k1 ⟨rfl, rfl, rfl, rfl⟩)).is k2) (fun ht2 => ?_) fun ht2 => ?_
      · refine go_ret ed_bl fun v H2 e2 r => ?_
        cases r
        have e3 : isGreatest ks low high = false := by
          unfold isGreatest
          rw [List.all_eq_false]
          exact ⟨i, List.mem_range.mpr (by omega), by rw [ht2]; simp⟩
        have := hq H2 (e1.trans e2)
        rw [e3] at this
        exact this
      · refine go_nil fun σ H2 e2 ok => ⟨e2, _, ok, ⟨_, rfl⟩, fun j hj => ?_⟩
        by_cases e : j = i
        · rw [e, ht, ht2]
          rfl
        · exact hb j (by omega)
    · rintro nv H' e1 ⟨⟨s1, rfl⟩, hb⟩
      refine go_ret ed_bl fun v H2 e2 r => ?_
      cases r
      have e3 : isGreatest ks low high = true := by
        unfold isGreatest
        rw [List.all_eq_true]
        intro j hj
        have := List.mem_range.mp hj
        exact hb j (by rw [rangeD_len]; omega)
      have := hq H2 (e1.trans e2)
      rw [e3] at this
      exact this
  exact g.run _ H (Ex.refl _) ⟨hN, .cons rfl (.cons r1 (.cons r2 (nva_un ["tooth"]))), by rw [hs]; exact vis1 (by decide +kernel) (vis1 (by decide +kernel) (vis1 (by decide +kernel) (unM_vis ["tooth"])))⟩⟩
section
variable {X : Cx} {k : Nat} {a b c : Expr} {env : Nv} {H : Hp} {pos p : Pos} {sc : Scope} {l kd : Addr} {ks : List (List Int)} {low high : List Int} {n : Nat} {kvs : List (List Int × V)}
theorem es_fill (A : Hs X k) (hs : X.env.scope = sc) (ha : EvV X a env H (.ref kd)) (hkd : Rd H kd (.dT (dkv (tr ks)))) (hb : EvD X b env H (kD low)) (l1 : low.length = n) (n1 : 1 ≤ n) (n2 : n ≤ 100) (hks : ∀ k ∈ ks, k.length = n) (nd : ks.Nodup) (hl : ks.length ≤ 50000) (hg : glB sc "filled_from" = true := by decide +kernel) (hk : 2 ≤ k := by decide) (hp : plainE a = true := by rfl) (hp2 : plainE b = true := by rfl) :
    EvS X (.Call (.Name "filled_from" p) [a, b] [] pos) env H (fun v H2 => ∃ b, v = .ref b ∧ H2 b = some (.dT (dkv (tr (filledFrom ks low))))) := ⟨fun σ H1 e0 ok Q q => by
  obtain ⟨f, fd, h1, h2, h3, h4⟩ := ((inferInstance : HasCal "filled_from" 2 ["keys", "low"] SpFill).cal X.prog X.w X.K X.mg A.t).ex
  refine ⟨_, pe_call (CX := CX0) (h4 X.base) (A.room.mono hk) (gl_of hs hg) h1 h2 h3 .nil pass0 (pa_cons pe_w (pa_cons pe_w pa_nil (star_of hp2)) (star_of hp)) (gl_db hg) (star_of hp) (plain_of (by simp [hp2])), ha.run σ H1 e0 ok _ fun H2 e2 => hb.run σ H2 (e0.trans e2) (ok.mono e2.t) _ fun v H3 e3 r3 => ?_⟩
  exact ⟨kd, v, ks, low, n, rfl, rd_ex hkd ((e0.trans e2).trans e3), r3, l1, n1, n2, hks, nd, hl, fun p H4 hp e4 h4 => q _ H4 ((e2.trans e3).trans e4) ⟨p, rfl, h4⟩⟩⟩
/-- a pair (low, what is filled from it) -/
def PrS (ks : List (List Int)) : PyData → V → Hp → Prop := fun d v H => ∃ low t kb b, d = kD low ∧ v = .ref t ∧ H t = some (.tup [.ref kb, .ref b]) ∧ H kb = some (.tup ((kI low).map kV)) ∧ H b = some (.dT (dkv (tr (filledFrom ks low))))
theorem PrS.st (ks : List (List Int)) : ∀ d v H H', ExN H H' → PrS ks d v H → PrS ks d v H' := by
  rintro d v H H' e ⟨low, t, kb, b, h1, h2, h3, h4, h5⟩
  exact ⟨low, t, kb, b, h1, h2, e _ _ h3 (fun xs z => nomatch z) (fun od u z => nomatch z), e _ _ h4 (fun xs z => nomatch z) (fun od u z => nomatch z), e _ _ h5 (fun xs z => nomatch z) (fun od u z => nomatch z)⟩
theorem es_pair {j : Nat} (ha : EvD X a env H (kD low)) (hb : EvS X b env H (fun v H2 => ∃ b, v = .ref b ∧ H2 b = some (.dT (dkv (tr (filledFrom ks low)))))) (hp : plainE a = true := by rfl) (hp2 : plainE b = true := by rfl) : EvS X (.Tuple [a, b] j pos) env H (PrS ks (kD low)) := ⟨fun σ H1 e0 ok Q q => by
  refine ⟨_, pe_tup (pa_cons pe_w (pa_cons pe_w pa_nil (star_of hp2)) (star_of hp)), ha.run σ H1 e0 ok _ fun v H2 e2 r2 => hb.run σ H2 (e0.trans e2) (ok.mono e2.t) _ fun u H3 e3 r3 => ?_⟩
  obtain ⟨b, rfl, hb⟩ := r3
  obtain ⟨kb, rfl, hk⟩ := rp_key (r2.mono e3.t)
  refine ⟨by show 2 ≤ sizeLine; decide, fun t ht => q _ _ ((e2.trans e3).trans (Ex.new ht)) ⟨low, t, kb, b, rfl, rfl, upd_same, ?_, ?_⟩⟩
  · exact Ex.new ht _ _ hk
  · exact Ex.new ht _ _ hb⟩
/-- dict of such pairs -/
theorem es_dict (A : Hs X k) (hs : X.env.scope = sc) (ha : EvLV X a env H (PrS ks) (ks.map kD)) (nd : ks.Nodup) (hg : glB sc "dict" = true := by decide +kernel) (hp : plainE a = true := by rfl) : EvS X (.Call (.Name "dict" p) [a] [] pos) env H (fun v H2 => ∃ f kvs, v = .ref f ∧ H f = none ∧ H2 f = some (.dT (dkv kvs)) ∧ FldV H2 ks kvs ∧ ∀ low v, (low, v) ∈ kvs → ∃ b, v = .ref b ∧ H2 b = some (.dT (dkv (tr (filledFrom ks low))))) := ⟨fun σ H1 e0 ok Q q => by
  refine ⟨_, pe_callTy (cr_dictT A.calm A.units) (gl_of hs hg) (A.t.free (by decide +kernel)) PyProof.Rows.boot_dict (pa_cons pe_w pa_nil (star_of hp)) (by decide) (gl_db hg) (star_of hp) (plain_of rfl), ha.run σ H1 e0 ok _ fun l H2 vs hl e2 h2 hv => ?_⟩
  have key : ∀ {ds : List PyData} {vs : List V}, SA (PrS ks) H2 ds vs → ∀ ls, ds = ls.map kD → ∃ (ps : List Addr) (kvs : List (List Int × V)), vs = ps.map V.ref ∧ Paired (PrAt H2) ps kvs ∧ kvs.map (·.1) = ls ∧ ∀ low v, (low, v) ∈ kvs → ∃ b, v = .ref b ∧ H2 b = some (.dT (dkv (tr (filledFrom ks low)))) := by
    intro ds vs w
    induction w with
    | nil =>
      intro ls e
      cases ls with
      | nil => exact ⟨[], [], rfl, .nil, rfl, fun _ _ z => nomatch z⟩
      | cons x ls => cases e
    | @cons d v ds vs h1 _ ih =>
      intro ls e
      cases ls with
      | nil => cases e
      | cons x ls =>
        obtain ⟨ps, kvs, c1, c2, c3, c4⟩ := ih ls (List.cons.inj e).2
        obtain ⟨low, t, kb, b, d1, d2, d3, d4, d5⟩ := h1
        have ex : low = x := by
          have e1 : kD low = kD x := d1.symm.trans (List.cons.inj e).1
          rw [← unK_kD low, ← unK_kD x, e1]
        subst ex
        refine ⟨t :: ps, (low, .ref b) :: kvs, by rw [c1, d2]; rfl, .cons ⟨kb, d3, d4⟩ c2, by rw [List.map_cons, c3], fun low' v' hm => ?_⟩
        rcases List.mem_cons.mp hm with z | z
        · cases z
          exact ⟨b, rfl, d5⟩
        · exact c4 low' v' z
  obtain ⟨ps, kvs, c1, c2, c3, c4⟩ := key hv ks rfl
  rw [c1] at h2
  refine ⟨l, ps, kvs, rfl, SqL.of h2, c2, by rw [c3]; exact nd, fun f hf => q _ _ (e2.trans (Ex.new hf)) ⟨f, kvs, rfl, e0.back (e2.back hf), upd_same, ⟨c3, fun low v hm => ?_⟩, fun low v hm => ?_⟩⟩
  · obtain ⟨b, d1, d2⟩ := c4 low v hm
    exact ⟨b, d1, .inl (Ex.new hf _ _ d2)⟩
  · obtain ⟨b, d1, d2⟩ := c4 low v hm
    exact ⟨b, d1, Ex.new hf _ _ d2⟩⟩
theorem et_great (A : Hs X k) (hs : X.env.scope = sc) (ha : EvV X a env H (.ref l)) (hl : Rd H l (.dT (dkv kvs))) (hv : FldV H ks kvs) (hb : EvD X b env H (kD low)) (hc : EvD X c env H (kD high)) (l1 : low.length = n) (l2 : high.length = n) (n2 : n ≤ 100) (hlow : low ∈ ks) (nd : ks.Nodup) (hg : glB sc "is_greatest" = true := by decide +kernel) (hk : 2 ≤ k := by decide) (hp : plainE a = true := by rfl) (hp2 : plainE b = true := by rfl) (hp3 : plainE c = true := by rfl) :
    EvD X (.Call (.Name "is_greatest" p) [a, b, c] [] pos) env H (.bool (isGreatest ks low high)) := ⟨fun σ H1 e0 ok Q q => by
  obtain ⟨f, fd, h1, h2, h3, h4⟩ := ((inferInstance : HasCal "is_greatest" 2 ["filled", "low", "high"] SpGr).cal X.prog X.w X.K X.mg A.t).ex
  refine ⟨_, pe_call (CX := CX0) (h4 X.base) (A.room.mono hk) (gl_of hs hg) h1 h2 h3 .nil pass0 (pa_cons pe_w (pa_cons pe_w (pa_cons pe_w pa_nil (star_of hp3)) (star_of hp2)) (star_of hp)) (gl_db hg) (star_of hp) (plain_of (by simp [hp2, hp3])), ha.run σ H1 e0 ok _ fun H2 e2 => hb.run σ H2 (e0.trans e2) (ok.mono e2.t) _ fun v H3 e3 r3 => hc.run σ H3 ((e0.trans e2).trans e3) ((ok.mono e2.t).mono e3.t) _ fun u H4 e4 r4 => ?_⟩
  have ex := ((e0.trans e2).trans e3).trans e4
  exact ⟨l, v, u, kvs, ks, low, high, n, rfl, rd_ex hl ex, hv.ex ex, r3.mono e4.t, r4, l1, l2, n2, hlow, nd, fun H5 e5 => q _ H5 (((e2.trans e3).trans e4).trans e5) (.bl _)⟩⟩
end

def gbRow (ks : List (List Int)) (low : List Int) : List (List (Int × Int)) := ((filledFrom ks low).filter (isGreatest ks low)).map (List.zip low)
def gbList (ks : List (List Int)) : List (List (Int × Int)) := ks.flatMap (gbRow ks)
def unG : PyData → Int × Int
  | .tuple [.int a, .int b] => (a, b)
  | _ => (0, 0)
def unB : PyData → List (Int × Int)
  | .tuple l => l.map unG
  | _ => []
theorem unB_bD (b : List (Int × Int)) : unB (bD b) = b := by
  show (b.map gD).map unG = b
  rw [List.map_map]
  have : unG ∘ gD = id := funext fun g => rfl
  rw [this, List.map_id]
/-- the greatest boxes, sorted -/
def greatestBy (ks : List (List Int)) : List (List (Int × Int)) := (sortD ((gbList ks).map bD)).map unB
theorem greatest_perm (ks : List (List Int)) : (greatestBy ks).Perm (gbList ks) := by
  have h := (sortD_perm ((gbList ks).map bD)).map unB
  rw [List.map_map] at h
  have e : (gbList ks).map (unB ∘ bD) = gbList ks := by
    have : unB ∘ bD = id := funext unB_bD
    rw [this, List.map_id]
  rw [e] at h
  exact h
theorem greatest_map (ks : List (List Int)) : (greatestBy ks).map bD = sortD ((gbList ks).map bD) := by
  unfold greatestBy
  rw [List.map_map]
  have key : ∀ d ∈ sortD ((gbList ks).map bD), (bD ∘ unB) d = d := by
    intro d hd
    obtain ⟨b, _, rfl⟩ := List.mem_map.mp ((sortD_perm _).mem_iff.mp hd)
    show bD (unB (bD b)) = bD b
    rw [unB_bD]
  exact (List.map_congr_left key).trans (List.map_id _)
theorem zip_bD : ∀ a b : List Int, PyData.tuple (zipD (zD a) (zD b)) = bD (List.zip a b) := by
  intro a b
  have key : ∀ a b : List Int, zipD (zD a) (zD b) = (List.zip a b).map gD := by
    intro a
    induction a with
    | nil => intro b; rfl
    | cons x a ih =>
      intro b
      cases b with
      | nil => rfl
      | cons y b => exact congrArg (_ :: ·) (ih b)
  rw [key]
  rfl
def boxF (low : List Int) : PyData → PyData := fun d => bD (List.zip low (unK d))
theorem boxes_srt {n : Nat} {bs : List (List (Int × Int))} (hn : 1 ≤ n) (h : ∀ b ∈ bs, b.length = n) (hl : bs.length ≤ 100000) : Srt (bs.map bD) := by
  refine ⟨?_, .inl ?_, by rw [List.length_map]; exact hl, ?_⟩
  · intro d hd d' hd'
    obtain ⟨b, hb, rfl⟩ := List.mem_map.mp hd
    obtain ⟨b', hb', rfl⟩ := List.mem_map.mp hd'
    have key : ∀ a b : List (Int × Int), a.length = b.length → PySem.W.alikeAll (a.map gD) (b.map gD) = true := by
      intro a
      induction a with
      | nil =>
        intro b hb
        cases b with
        | nil => exact PySem.W.alike_ints [] []
        | cons y b => cases hb
      | cons x a ih =>
        intro b hb
        cases b with
        | nil => cases hb
        | cons y b =>
          show PySem.W.alikeAll (.tuple [.int x.1, .int x.2] :: a.map gD) (.tuple [.int y.1, .int y.2] :: b.map gD) = true
          rw [PySem.W.alikeAll, ih b (by simpa using hb)]
          have : PySem.W.alike (.tuple [.int x.1, .int x.2]) (.tuple [.int y.1, .int y.2]) = true := by
            rw [PySem.W.alike]
            exact PySem.W.alike_ints [x.1, x.2] [y.1, y.2]
          rw [this]
          rfl
    show PySem.W.alike (.tuple (b.map gD)) (.tuple (b'.map gD)) = true
    rw [PySem.W.alike]
    exact key b b' (by rw [h b hb, h b' hb'])
  · intro d hd
    obtain ⟨b, hb, rfl⟩ := List.mem_map.mp hd
    have := h b hb
    cases b with
    | nil =>
      simp at this
      omega
    | cons x b => exact ⟨gD x, b.map gD, rfl⟩
  · intro d hd
    obtain ⟨b, hb, rfl⟩ := List.mem_map.mp hd
    have key : ∀ a : List (Int × Int), PyData.depthAll (a.map gD) ≤ 1 := by
      intro a
      induction a with
      | nil =>
        show PyData.depthAll [] ≤ 1
        rw [PyData.depthAll]
        omega
      | cons x a ih =>
        show PyData.depthAll (.tuple [.int x.1, .int x.2] :: a.map gD) ≤ 1
        rw [PyData.depthAll, PyData.depth]
        have : PyData.depthAll [.int x.1, .int x.2] = 0 := PySem.W.depth_ints [x.1, x.2]
        rw [this]
        omega
    show (PyData.tuple (b.map gD)).depth ≤ 8
    rw [PyData.depth]
    have := key b
    omega
theorem el_srt {X : Cx} {k : Nat} {a : Expr} {env : Nv} {H : Hp} {ds : List PyData} {pos p : Pos} {sc : Scope} (A : Hs X k) (hs : X.env.scope = sc) (ha : EvR X a env H ds) (S : Srt ds) (hg : glB sc "sorted" = true := by decide +kernel) (hp : plainE a = true := by rfl) :
    EvL X (.Call (.Name "sorted" p) [a] [] pos) env H (sortD ds) := ⟨fun σ H1 e0 ok Q q =>
  ⟨_, pe_callB (cr_srt A.units) (gl_of hs hg) (A.t.free (by decide +kernel)) boot_sorted (pa_cons pe_w pa_nil (star_of hp)) (by decide) (gl_db hg) (star_of hp) (plain_of rfl), ha.run σ H1 e0 ok _ fun l H2 e2 hl => by
    obtain ⟨vs, h1, h2⟩ := hl
    exact ⟨l, vs, ds, rfl, SqL.of h1, h2, S, fun pp ys hp' hy => q pp _ (e2.back hp') (e2.trans (Ex.new hp')) ⟨ys, upd_same, hy.mono (Ex.new hp').t⟩⟩⟩⟩
def SpGb : Sp := fun vs H Q _ => ∃ d ks n, vs = [.ref d] ∧ H d = some (.dT (dkv (tr ks))) ∧ 1 ≤ n ∧ n ≤ 100 ∧ (∀ k ∈ ks, k.length = n) ∧ ks.Nodup ∧ ks.length ≤ 300 ∧ ∀ v H', Ex H H' → Rp H' v (.tuple ((greatestBy ks).map bD)) → Q v H'
theorem len_greatest_by : ∀ vs H Q E, SpGb vs H Q E → vs.length = (["keys"] : List Str).length := by
  rintro vs H Q E ⟨d, ks, n, rfl, _⟩
  rfl
theorem ff_all (ks : List (List Int)) (low : List Int) : ∀ k ∈ filledFrom ks low, k ∈ ks := fun k hk => by
  rcases ff_sub low _ _ k hk with z | z
  · cases z
  · exact (sortK_perm ks).mem_iff.mp z
theorem ff_size (ks : List (List Int)) (low : List Int) : (filledFrom ks low).length ≤ ks.length := by
  have h1 := ff_len low (sortK ks) []
  rw [(sortK_perm ks).length_eq, List.length_nil, Nat.zero_add] at h1
  exact h1
theorem gb_each {ks : List (List Int)} {n : Nat} (h : ∀ k ∈ ks, k.length = n) : ∀ b ∈ gbList ks, b.length = n := by
  intro b hb
  obtain ⟨low, h1, h2⟩ := List.mem_flatMap.mp hb
  obtain ⟨high, h3, rfl⟩ := List.mem_map.mp h2
  rw [List.length_zip, h low h1, h high (ff_all ks low high (List.mem_filter.mp h3).1), Nat.min_self]
theorem row_len (ks : List (List Int)) (low : List Int) : (gbRow ks low).length ≤ ks.length := by
  unfold gbRow
  rw [List.length_map]
  exact Nat.le_trans (List.length_filter_le _ _) (ff_size ks low)
theorem rows_len (ks : List (List Int)) : ∀ l : List (List Int), (l.flatMap (gbRow ks)).length ≤ l.length * ks.length
  | [] => by simp
  | x :: l => by
    rw [List.flatMap_cons, List.length_append, List.length_cons, Nat.succ_mul]
    have h1 := rows_len ks l
    have h2 := row_len ks x
    omega
theorem mem_trk {l : List (List Int)} {d : PyData} (h : d ∈ (tr l).map fun p => kD p.1) : ∃ k, k ∈ l ∧ d = kD k := by
  obtain ⟨p, hp, rfl⟩ := List.mem_map.mp h
  obtain ⟨k, hk, rfl⟩ := List.mem_map.mp hp
  exact ⟨k, hk, rfl⟩
theorem tr_map (l : List (List Int)) : ((tr l).map fun p => kD p.1) = l.map kD := by
  unfold tr
  rw [List.map_map]
  rfl
theorem row_map (ks : List (List Int)) (low : List Int) : ((((tr (filledFrom ks low)).map fun p => kD p.1).filter fun d => isGreatest ks low (unK d)).map (boxF low)) = (gbRow ks low).map bD := by
  rw [tr_map]
  unfold gbRow
  rw [List.filter_map, List.map_map, List.map_map]
  have e1 : (fun d => isGreatest ks low (unK d)) ∘ kD = isGreatest ks low := funext fun k => by
    show isGreatest ks low (unK (kD k)) = _
    rw [unK_kD]
  rw [e1]
  apply List.map_congr_left
  intro k _
  show bD (List.zip low (unK (kD k))) = bD (List.zip low k)
  rw [unK_kD]
theorem sc_greatest_by : FnScope ((["keys"] : List Str) ++ (["filled", "found", "low", "high"] : List Str)) ["keys"] (defScope (top 42)) := fnScope_by (by decide +kernel)
instance : HasCal "greatest_by" 3 ["keys"] SpGb := ⟨fun P w K mg T => by
  refine Cal.mk' T (i := 42) (N := (["keys"] : List Str) ++ (["filled", "found", "low", "high"] : List Str)) (List.mem_of_getElem? (i := 13) rfl) (by decide +kernel) sc_greatest_by (fun _ _ _ _ _ _ us hl => match us, hl with | [_], _ => rfl) len_greatest_by fun X A hs hN hf vs H Q E h => ?_
  obtain ⟨kd, ks, n, rfl, hkd, hn1, hn2, hks, hnd, hkl, hq⟩ := h
  have hkl2 : ks.length * ks.length ≤ 90000 := Nat.mul_le_mul hkl hkl
  have g : Go X (defBody (top 42)) ([("keys", .v (.ref kd)), ("filled", .un), ("found", .un), ("low", .un), ("high", .un)] : Nv) H { nx := fun _ H' => Q .non H', rt := Q } := by
    refine go_setS A (es_dict (ks := ks) A hs (el_lockV (PrS ks) (PrS.st ks) hkd fun od => by
      rw [← tr_map]
      exact (el_lcV (N := ["keys", "filled", "found", "low", "high"]) (own := [("low", 3)]) (PrS ks) (PrS.st ks) A hs (ei_keysD (ev_var .here hs (by decide +kernel)) (by exact upd_same)) (by rw [List.length_map]; unfold tr; rw [List.length_map]; omega) rfl (by decide +kernel) (.keep (by decide +kernel) (by decide) (.drop (.drop (.drop (.drop .nil))))) (fun d hd => by
      obtain ⟨low, hlow, rfl⟩ := mem_trk hd
      exact ⟨_, (.name (.next (.next (.next (.here))))), fun X A hs => es_pair (ed_var (.next (.next (.next (.here)))) hs (by decide +kernel)) (es_fill A hs (ev_var .here hs (by decide +kernel)) (.inr ⟨od, upd_same⟩) (ed_var (.next (.next (.next (.here)))) hs (by decide +kernel)) (hks low hlow) hn1 hn2 hks hnd (by omega))⟩))) hnd) (fun _ => (.next (.here))) (locN hf hs (by decide +kernel)) fun f0 H1 e1 hS => ?_
    obtain ⟨f, kvs, rfl, nf, hf1, hfv, hval⟩ := hS
    refine go_setL A (el_lst ea_nil) (fun _ => (.next (.next (.here)))) (locN hf hs (by decide +kernel)) fun a H2 na e2 hfo => ?_
    have hf2 := e2 _ _ hf1
    have hval2 : ∀ low v, (low, v) ∈ kvs → ∃ b, v = .ref b ∧ b ≠ f ∧ H2 b = some (.dT (dkv (tr (filledFrom ks low)))) := by
      intro low v hm
      obtain ⟨b, h1, h2⟩ := hval low v hm
      refine ⟨b, h1, ?_, e2 _ _ h2⟩
      rintro rfl
      rw [hf1] at h2
      have e3 : dkv kvs = dkv (tr (filledFrom ks low)) := by
        have e4 : HO.dT (dkv kvs) = HO.dT (dkv (tr (filledFrom ks low))) := Option.some.inj h2
        injection e4
      have hm2 : (kI low, V.ref b) ∈ dkv kvs := by
        rw [← h1]
        exact List.mem_map.mpr ⟨_, hm, rfl⟩
      rw [e3] at hm2
      obtain ⟨p, hp, e4⟩ := List.mem_map.mp hm2
      obtain ⟨k, _, rfl⟩ := List.mem_map.mp hp
      have e5 : V.bl true = V.ref b := congrArg Prod.snd e4
      cases e5
    refine go_forD (fun G i nv H' => ExL a G H' ∧ ∃ s1 s2, nv = ([("keys", .v (.ref kd)), ("filled", .v (.ref f)), ("found", .v (.ref a)), ("low", s1), ("high", s2)] : Nv) ∧ Lst H' a (((ks.take i).flatMap (gbRow ks)).map bD)) A (fun _ => (ev_var (.next (.here)) hs (by decide +kernel))) hf2 ?_ ?_ ?_ ?_
    · intro G od eG
      refine ⟨(Ex.refl G).l, _, _, rfl, ?_⟩
      obtain ⟨vs, w1, w2⟩ := hfo
      have naf : a ≠ f := by
        intro z
        rw [z, hf2] at w1
        cases w1
      exact ⟨vs, eG _ _ (by unfold lockH; rw [upd_ne naf]; exact w1), w2.mono ((lock_t hf2 fun xs z => nomatch z).trans eG.t)⟩
    · rintro G od eG i nv H' ⟨xl, s1, s2, rfl, hla⟩
      obtain ⟨vs, w1, w2⟩ := hfo
      have naf : a ≠ f := by
        intro z
        rw [z, hf2] at w1
        cases w1
      have hGa := eG _ _ (by unfold lockH; rw [upd_ne naf]; exact w1)
      have hGf := eG _ _ (by unfold lockH; exact upd_same)
      refine ⟨xl.t fun xs z => ?_, ?_⟩
      · rw [hGa] at z
        cases z
      · rw [hGf]
        exact xl f _ (Ne.symm naf) hGf
    · rintro G od i p nv H' eG hp ⟨xl, s1, s2, rfl, hla⟩
      obtain ⟨b, hpv, nbf, hb0⟩ := hval2 p.1 p.2 (List.mem_of_getElem? hp)
      have hlow : p.1 ∈ ks := by
        rw [← hfv.keys]
        exact List.mem_map.mpr ⟨p, List.mem_of_getElem? hp, rfl⟩
      have hlowi : ks[i]? = some p.1 := by
        rw [← hfv.keys, List.getElem?_map, hp]
        rfl
      have hb1 : getI kvs p.1 = some (.ref b) := by
        rw [← hpv]
        exact getI_mem (by rw [hfv.keys]; exact hnd) (List.mem_of_getElem? hp)
      generalize p.1 = low at hlow hlowi hb1 hb0
      refine ⟨_, _, .name (.next (.next (.next (.here)))), fun q hq => locN hf hs (by simp at hq; rcases hq with rfl; decide +kernel), fun H3 D' e3 hnx => ?_⟩
      obtain ⟨vs, w1, w2⟩ := hfo
      have naf : a ≠ f := by
        intro z
        rw [z, hf2] at w1
        cases w1
      have nba : b ≠ a := by
        intro z
        rw [z, w1] at hb0
        cases hb0
      have hGf := eG f _ (by unfold lockH; exact upd_same)
      have toH3 : ∀ c o, c ≠ a → G c = some o → H3 c = some o := fun c o n z => e3 _ _ (xl c o n z)
      have hfH3 := toH3 f _ (Ne.symm naf) hGf
      have lk : ∀ c o, c ≠ f → H2 c = some o → G c = some o := fun c o n z => eG _ _ (by unfold lockH; rw [upd_ne n]; exact z)
      have hbH3 : H3 b = some (.dT (dkv (tr (filledFrom ks low)))) := toH3 b _ nba (lk b _ nbf hb0)
      have hfR0 : Rd H3 f (.dT (dkv kvs)) := .inr ⟨od, hfH3⟩
      have hval3 : ∀ low v, (low, v) ∈ kvs → ∃ b, v = .ref b ∧ H3 b = some (.dT (dkv (tr (filledFrom ks low)))) := by
        intro low v hm
        obtain ⟨b, c1, c2, c3⟩ := hval2 low v hm
        refine ⟨b, c1, toH3 b _ (fun z => ?_) (lk b _ c2 c3)⟩
        rw [z, w1] at c3
        cases c3
      refine go_ext (ys := (gbRow ks low).map bD) (ev_var (.next (.next (.here))) hs (by decide +kernel)) (hla.ex e3) (el_lock hbH3 fun od2 => ?_) ?_ fun H4 x4 hl4 => go_nil fun σ H5 e5 ok5 => ?_
      · have hfR : Rd (lockH H3 b od2 (.dT (dkv (tr (filledFrom ks low))))) f (.dT (dkv kvs)) := .inr ⟨od, by unfold lockH; rw [upd_ne (Ne.symm nbf)]; exact hfH3⟩
        have hfvL : FldV (lockH H3 b od2 (.dT (dkv (tr (filledFrom ks low))))) ks kvs := ⟨hfv.keys, fun low' v hm => by
          obtain ⟨c, c1, c2⟩ := hval3 low' v hm
          refine ⟨c, c1, ?_⟩
          by_cases z : c = b
          · rw [z] at c2 ⊢
            rw [hbH3] at c2
            exact .inr ⟨od2, by unfold lockH; rw [upd_same, Option.some.inj c2]⟩
          · exact .inl (by unfold lockH; rw [upd_ne z]; exact c2)⟩
        rw [← row_map]
        exact (el_lc (N := ["keys", "filled", "found", "low", "high"]) (own := [("high", 4)]) (fun d => isGreatest ks low (unK d)) (boxF low) A hs (ei_keysD (ev_dget A (dc_var (ev_var (.next (.here)) hs (by decide +kernel)) hfR) (ed_var (.next (.next (.next (.here)))) hs (by decide +kernel)) hb1) (by exact upd_same)) (by rw [List.length_map]; unfold tr; rw [List.length_map]; have := ff_size ks low; omega) rfl (by decide +kernel) (.drop (.keep (by decide +kernel) (by decide) (.drop (.keep (by decide +kernel) (by decide) (.drop .nil))))) (fun d hd => by
      obtain ⟨high, hhigh, rfl⟩ := mem_trk hd
      have hl2 := hks high (ff_all ks low high hhigh)
      exact ⟨_, (.name (.next (.next (.next (.next (.here)))))), fun X A hs => ⟨(ts_one (et_val ((et_great A hs (ev_var (.next (.here)) hs (by decide +kernel)) hfR hfvL (ed_var (.next (.next (.next (.here)))) hs (by decide +kernel)) (ed_var (.next (.next (.next (.next (.here))))) hs (by decide +kernel)) (hks low hlow) hl2 (by omega) hlow hnd).is (by rw [unK_kD])))), fun h_2 => ((ed_tupL A hs (EvL.r (el_listZip A hs (ed_var (.next (.next (.next (.here)))) hs (by decide +kernel)) (ed_var (.next (.next (.next (.next (.here))))) hs (by decide +kernel))))).is (by rw [zip_bD]; show _ = bD (List.zip low (unK (kD high))); rw [unK_kD]))⟩⟩))
      · rw [List.length_map, List.length_map]
        have h1 := rows_len ks (ks.take i)
        have h2 := row_len ks low
        have h3 : (ks.take i).length * ks.length ≤ ks.length * ks.length := Nat.mul_le_mul_right _ (by rw [List.length_take]; omega)
        omega
      · refine hnx σ H5 _ ok5 ⟨(xl.trans e3.l).trans (x4.trans e5.l), _, _, rfl, ?_⟩
        have := hl4.ex e5
        rw [← List.map_append] at this
        rw [take_snoc hlowi, List.flatMap_append]
        simpa using this
    · rintro G od nv H' eG ⟨xl, s1, s2, rfl, hla⟩
      obtain ⟨vs, w1, w2⟩ := hfo
      have naf : a ≠ f := by
        intro z
        rw [z, hf2] at w1
        cases w1
      have hGf := eG f _ (by unfold lockH; exact upd_same)
      have hHf := xl f _ (Ne.symm naf) hGf
      have hkl3 : kvs.length = ks.length := by rw [← hfv.keys, List.length_map]
      rw [hkl3, List.take_of_length_le (Nat.le_refl _)] at hla
      have hla2 : Lst (upd H' f (.dT (dkv kvs))) a ((gbList ks).map bD) := by
        obtain ⟨ws, d1, d2⟩ := hla
        exact ⟨ws, by rw [upd_ne naf]; exact d1, d2.mono (unlock_t hHf)⟩
      have hfo := hla2
      have hsr : Srt ((gbList ks).map bD) := boxes_srt hn1 (gb_each hks) (by have := rows_len ks ks; unfold gbList; omega)
      refine go_ret (ed_tupL A hs (EvL.r (el_srt A hs (EvV.r (ev_var (.next (.next (.here))) hs (by decide +kernel)) hfo) hsr))) fun v H5 e5 r5 => ?_
      rw [← greatest_map] at r5
      refine hq v H5 (fun b o z => e5 _ _ ?_) r5
      have z2 := e2 _ _ (e1 _ _ z)
      have nfb : b ≠ f := ne_of_none z nf
      have nab : b ≠ a := by
        intro w
        rw [w] at z
        have z3 := e1 _ _ z
        rw [na] at z3
        cases z3
      rw [upd_ne nfb]
      exact xl _ _ nab (eG _ _ (by unfold lockH; rw [upd_ne nfb]; exact z2))
  exact g.run _ H (Ex.refl _) ⟨hN, .cons rfl (nva_un ["filled", "found", "low", "high"]), by rw [hs]; exact vis1 (by decide +kernel) (unM_vis ["filled", "found", "low", "high"])⟩⟩
end WK
/-! WKFit -/
set_option Elab.async false
set_option linter.all false
set_option maxRecDepth 100000
set_option maxHeartbeats 1000000
/-! fitting -/
namespace WK
open PySem PySem.Spec PyProof.Rows L2
theorem shaped_zD (l : List Int) : SeqAt.shaped (.tuple (zD l)) = true := by
  have k1 : ∀ l : List Int, PyData.canLayAll0 (zD l) = true := by
    intro l
    induction l with
    | nil => rfl
    | cons i l ih =>
      show PyData.canLayAll0 (.int i :: zD l) = true
      rw [PyData.canLayAll0, ih]
      rfl
  have k2 : (PyData.tuple (zD l)).depth ≤ 64 := by
    have := depth_key l
    unfold kD at this
    omega
  unfold SeqAt.shaped
  rw [PyData.canLay0, k1, decide_eq_true k2]
  rfl

section
variable {X : Cx} {k : Nat} {a b c : Expr} {env : Nv} {H : Hp} {pos p : Pos} {sc : Scope} {ks : List (List Int)} {n : Nat} {ds : List PyData} {r : List (List Int × List Int)}
/-- all_against's new dict -/
theorem es_all (A : Hs X k) (hs : X.env.scope = sc) (ha : EvA X [a, b, c] env H ds) (hr : R_all_against ds r) (hg : glB sc "all_against" = true := by decide +kernel) (hk : 5 ≤ k := by decide) (hp : [a, b, c].all plainE = true := by rfl) :
    EvS X (.Call (.Name "all_against" p) [a, b, c] [] pos) env H (fun v H2 => ∃ f kvs, v = .ref f ∧ H f = none ∧ H2 f = some (.dT (dkv kvs)) ∧ VsN H2 kvs r) := ⟨fun σ H1 e0 ok Q q => by
  obtain ⟨f, fd, h1, h2, h3, h4⟩ := ((inferInstance : HasCal "all_against" 5 ["house", "hall", "record"] (SpN R_all_against)).cal X.prog X.w X.K X.mg A.t).ex
  obtain ⟨hp1, hp2⟩ := Bool.and_eq_true_iff.mp hp
  refine ⟨_, pe_call (CX := CX0) (h4 X.base) (A.room.mono hk) (gl_of hs hg) h1 h2 h3 .nil pass0 pa_w (gl_db hg) (star_of hp1) (plain_of hp2), ha.run σ H1 e0 ok _ fun vs H2 e2 rr => ?_⟩
  show SpN R_all_against (vs ++ []) H2 Q _
  rw [List.append_nil]
  exact ⟨ds, r, hr, rr, fun f H3 kvs hf e3 h3 hv => q _ H3 (e2.trans e3) ⟨f, kvs, rfl, e0.back (e2.back hf), h3, hv⟩⟩⟩
def mkT (k : List Int) : PyData := .tuple [kD k, .bool true]
/-- dict of (key, True) -/
theorem es_marks (A : Hs X k) (hs : X.env.scope = sc) (ha : EvL X a env H (ks.map mkT)) (nd : ks.Nodup) (hg : glB sc "dict" = true := by decide +kernel) (hp : plainE a = true := by rfl) : EvS X (.Call (.Name "dict" p) [a] [] pos) env H (fun v H2 => ∃ f, v = .ref f ∧ H2 f = some (.dT (dkv (tr ks)))) := ⟨fun σ H1 e0 ok Q q => by
  refine ⟨_, pe_callTy (cr_dictT A.calm A.units) (gl_of hs hg) (A.t.free (by decide +kernel)) PyProof.Rows.boot_dict (pa_cons pe_w pa_nil (star_of hp)) (by decide) (gl_db hg) (star_of hp) (plain_of rfl), ha.run σ H1 e0 ok _ fun l H2 hl e2 h2 => ?_⟩
  obtain ⟨vs, h3, h4⟩ := h2
  have key : ∀ {ks : List (List Int)} {vs : List V}, RpA H2 vs (ks.map mkT) → ∃ ps : List Addr, vs = ps.map V.ref ∧ Paired (PrAt H2) ps (tr ks) := by
    intro ks
    induction ks with
    | nil =>
      intro vs w
      cases w
      exact ⟨[], rfl, .nil⟩
    | cons x ks ih =>
      intro vs w
      cases w with
      | @cons v vs _ _ w1 w2 =>
        obtain ⟨ps, c1, c2⟩ := ih w2
        have w1 : Rp H2 v (.tuple [kD x, .bool true]) := w1
        cases w1 with
        | @tup t us _ d1 d2 =>
          cases d2 with
          | cons d3 d4 =>
            cases d4 with
            | cons d5 d6 =>
              cases d6
              cases d5
              obtain ⟨kb, rfl, d7⟩ := rp_key d3
              exact ⟨t :: ps, by rw [c1]; rfl, .cons ⟨kb, d1, d7⟩ c2⟩
  obtain ⟨ps, c1, c2⟩ := key h4
  rw [c1] at h3
  exact ⟨l, ps, tr ks, rfl, SqL.of h3, c2, by rw [tr_keys]; exact nd, fun f hf => q _ _ (e2.trans (Ex.new hf)) ⟨f, rfl, upd_same⟩⟩⟩
theorem ed_greatest (A : Hs X k) (hs : X.env.scope = sc) (ha : EvS X a env H (fun v H2 => ∃ f, v = .ref f ∧ H2 f = some (.dT (dkv (tr ks))))) (n1 : 1 ≤ n) (n2 : n ≤ 100) (hks : ∀ k ∈ ks, k.length = n) (nd : ks.Nodup) (hl : ks.length ≤ 300) (hg : glB sc "greatest_by" = true := by decide +kernel) (hk : 3 ≤ k := by decide) (hp : plainE a = true := by rfl) :
    EvD X (.Call (.Name "greatest_by" p) [a] [] pos) env H (.tuple ((greatestBy ks).map bD)) := ⟨fun σ H1 e0 ok Q q => by
  obtain ⟨f, fd, h1, h2, h3, h4⟩ := ((inferInstance : HasCal "greatest_by" 3 ["keys"] SpGb).cal X.prog X.w X.K X.mg A.t).ex
  refine ⟨_, pe_call (CX := CX0) (h4 X.base) (A.room.mono hk) (gl_of hs hg) h1 h2 h3 .nil pass0 (pa_cons pe_w pa_nil (star_of hp)) (gl_db hg) (star_of hp) (plain_of rfl), ha.run σ H1 e0 ok _ fun v H2 e2 hv => ?_⟩
  obtain ⟨d, rfl, hd⟩ := hv
  exact ⟨d, ks, n, rfl, hd, n1, n2, hks, nd, hl, fun v H3 e3 r3 => q v H3 (e2.trans e3) r3⟩⟩
end
/-- the keys that fit all -/
def fitKeys (h : Ho) (hall : Int) (r : List Entry) : List (List Int) := ((agAll h hall r (allKeys h.teeth.toNat)).filter fun p => p.2.isEmpty).map (·.1)
def fitT (r : List (List Int × List Int)) : PyData → Bool := fun d => r.any fun p => decide (p.1 = unK d) && p.2.isEmpty
def mkF : PyData → PyData := fun d => .tuple [d, .bool true]
theorem fitT_of {r : List (List Int × List Int)} {k : List Int} {l : List Int} (nd : (r.map (·.1)).Nodup) (h : (k, l) ∈ r) : fitT r (kD k) = l.isEmpty := by
  unfold fitT
  rw [unK_kD]
  cases e : l.isEmpty with
  | true =>
    rw [List.any_eq_true]
    exact ⟨_, h, by rw [e]; simp⟩
  | false =>
    rw [List.any_eq_false]
    intro p hp z
    obtain ⟨z1, z2⟩ := Bool.and_eq_true_iff.mp z
    have z1 : p.1 = k := of_decide_eq_true z1
    have : p = (k, l) := by
      have key : ∀ {r : List (List Int × List Int)}, (r.map (·.1)).Nodup → p ∈ r → (k, l) ∈ r → p = (k, l) := by
        intro r
        induction r with
        | nil => intro _ w; cases w
        | cons y r ih =>
          intro nd w1 w2
          rw [List.map_cons, List.nodup_cons] at nd
          rcases List.mem_cons.mp w1 with a1 | a1
          · rcases List.mem_cons.mp w2 with a2 | a2
            · rw [a1, ← a2]
            · exact absurd (List.mem_map.mpr ⟨_, a2, by rw [← a1, z1]⟩) nd.1
          · rcases List.mem_cons.mp w2 with a2 | a2
            · exact absurd (List.mem_map.mpr ⟨_, a1, by rw [← a2, z1]⟩) nd.1
            · exact ih nd.2 a1 a2
      exact key nd hp h
    rw [this] at z2
    rw [e] at z2
    cases z2
theorem eqv_nil (l : List Int) : PyData.eqv (.tuple (zD l)) (.tuple []) = l.isEmpty := by
  cases l with
  | nil => rfl
  | cons x l => rfl
theorem fit_map (r : List (List Int × List Int)) (nd : (r.map (·.1)).Nodup) (ds : List PyData) (hd : ds = r.map fun p => kD p.1) : (ds.filter (fitT r)).map mkF = ((r.filter fun p => p.2.isEmpty).map (·.1)).map mkT := by
  subst hd
  rw [List.filter_map, List.map_map, List.map_map]
  have e : r.filter (fitT r ∘ fun p => kD p.1) = r.filter fun p => p.2.isEmpty := List.filter_congr fun p hp => fitT_of (k := p.1) (l := p.2) nd hp
  rw [e]
  rfl
theorem agAll_nodup (h : Ho) (hall : Int) (r : List Entry) : ((agAll h hall r (allKeys h.teeth.toNat)).map (·.1)).Nodup := (allKeys_nodup _).sublist (agAll_keys h hall r _)
inductive R_fitting : List PyData → PyData → Prop
  | mk (h : Ho) (hall : Int) (r : List Entry) (ok : HoOk h) (t2 : h.teeth ≤ 2) (hi : HallOk h hall) (hr : RecOk h hall r) (hl : r.length ≤ 12) : R_fitting [hoD h, .int hall, recD r] (.tuple ((greatestBy (fitKeys h hall r)).map bD))
theorem rec_each {h : Ho} : ∀ {hall : Int} {r : List Entry}, RecOk h hall r → ∀ e ∈ r, EntryOk h e
  | _, [], _, e, he => by cases he
  | _, x :: r, hr, e, he => by
    rcases List.mem_cons.mp he with z | z
    · rw [z]
      exact hr.1
    · exact rec_each hr.2.2 e z
theorem mem_vk {H : Hp} {kvs : List (List Int × V)} {r : List (List Int × List Int)} (hv : VsN H kvs r) {d : PyData} (h : d ∈ kvs.map fun p => kD p.1) : ∃ k l, (k, l) ∈ r ∧ d = kD k := by
  have e : (kvs.map fun p => kD p.1) = (r.map (·.1)).map kD := by
    rw [← hv.keys, List.map_map]
    rfl
  rw [e] at h
  obtain ⟨k, hk, rfl⟩ := List.mem_map.mp h
  obtain ⟨p, hp, rfl⟩ := List.mem_map.mp hk
  exact ⟨p.1, p.2, hp, rfl⟩
theorem sc_fitting : FnScope ((["house", "hall", "record"] : List Str) ++ (["found", "key"] : List Str)) ["house", "hall", "record"] (defScope (top 88)) := fnScope_by (by decide +kernel)
instance : HasCal "fitting" 12 ["house", "hall", "record"] (SpD R_fitting) := ⟨fun P w K mg T => by
  refine Cal.pure T (i := 88) (more := (["found", "key"] : List Str)) (List.mem_of_getElem? (i := 42) rfl) (by decide +kernel) sc_fitting (fun _ _ _ _ _ _ us hl => match us, hl with | [_, _, _], _ => rfl) (by decide +kernel) (fun ds r h => by cases h <;> rfl) fun X A hs hf ds r h H D hD => ?_
  cases h with
  | mk h hall r ok t2 hi hr hl =>
    have t1 := ok.teeth
    have hal : (agAll h hall r (allKeys h.teeth.toNat)).length ≤ 49 := by
      have h1 := (agAll_keys h hall r (allKeys h.teeth.toNat)).length_le
      rw [List.length_map, allKeys_len] at h1
      have h7 : 7 ^ h.teeth.toNat ≤ 49 := by
        have : h.teeth.toNat = 1 ∨ h.teeth.toNat = 2 := by omega
        rcases this with e | e <;> rw [e] <;> decide
      exact Nat.le_trans h1 h7
    have hfk : ∀ k ∈ fitKeys h hall r, k.length = h.teeth.toNat := by
      intro k hk
      obtain ⟨p, hp, rfl⟩ := List.mem_map.mp hk
      have hp2 := (agAll_keys h hall r _).subset (List.mem_map.mpr ⟨p, (List.mem_filter.mp hp).1, rfl⟩)
      exact allKeys_each _ _ hp2
    have hfn : (fitKeys h hall r).Nodup := (agAll_nodup h hall r).sublist (List.Sublist.map _ List.filter_sublist)
    have hfl : (fitKeys h hall r).length ≤ 300 := by
      unfold fitKeys
      rw [List.length_map]
      have := List.length_filter_le (fun p : List Int × List Int => p.2.isEmpty) (agAll h hall r (allKeys h.teeth.toNat))
      omega
    simp only [nvOf, unM]
    refine go_expr (ed_call A hs (ea_cons (ed_var .here hs (by decide +kernel)) (ea_cons (ed_var (.next (.here)) hs (by decide +kernel)) (ea_cons (ed_var (.next (.next (.here))) hs (by decide +kernel)) ea_nil))) (by constructor <;> first | assumption | rfl | omega)) ?_
    refine go_setS A (es_all A hs (ea_cons (ed_var .here hs (by decide +kernel)) (ea_cons (ed_var (.next (.here)) hs (by decide +kernel)) (ea_cons (ed_var (.next (.next (.here))) hs (by decide +kernel)) ea_nil))) (R_all_against.mk h hall r ok (rec_each hr) hl)) (fun _ => (.next (.next (.next (.here))))) (locN hf hs (by decide +kernel)) fun v H1 e1 hS => ?_
    obtain ⟨f, kvs, rfl, nf, hf1, hvs⟩ := hS
    refine go_outX (ed_greatest (ks := fitKeys h hall r) (n := h.teeth.toNat) A hs (es_marks A hs (el_lock hf1 fun od => ?_) hfn) (by omega) (by omega) hfk hfn hfl) (by rfl) hD e1
    have hvL : VsN (lockH H1 f od (.dT (dkv kvs))) kvs (agAll h hall r (allKeys h.teeth.toNat)) := hvs.mono (lock_t hf1 fun xs z => nomatch z)
    unfold fitKeys
    rw [← fit_map _ (agAll_nodup h hall r) (kvs.map fun p => kD p.1) (by
      have := congrArg (List.map kD) hvs.keys
      rw [List.map_map, List.map_map] at this
      exact this)]
    exact (el_lc (N := ["house", "hall", "record", "found", "key"]) (own := [("key", 4)]) (fitT (agAll h hall r (allKeys h.teeth.toNat))) mkF A hs (ei_keysD (ev_var (.next (.next (.next (.here)))) hs (by decide +kernel)) (by exact upd_same)) (by rw [List.length_map, hvs.len]; omega) rfl (by decide +kernel) (.drop (.drop (.drop (.keep (by decide +kernel) (by decide) (.drop .nil))))) (fun d hd => by
      obtain ⟨key, l, hkl, rfl⟩ := mem_vk hvs hd
      obtain ⟨vv, hg1, hg2⟩ := hvL.get (agAll_nodup h hall r) hkl
      exact ⟨_, (.name (.next (.next (.next (.next (.here)))))), fun X A hs => ⟨(ts_one ((et_eq A (ed_dget A (dc_var (ev_var (.next (.next (.next (.here)))) hs (by decide +kernel)) (.inr ⟨od, upd_same⟩)) (ed_var (.next (.next (.next (.next (.here))))) hs (by decide +kernel)) hg1 hg2) (ed_tup ea_nil) (shaped_zD _) (by decide +kernel)).is (by rw [eqv_nil, fitT_of (agAll_nodup h hall r) hkl]))), fun h_1 => (ed_tup (ea_cons (ed_var (.next (.next (.next (.next (.here))))) hs (by decide +kernel)) (ea_cons ed_bl ea_nil)))⟩⟩))⟩
end WK
/-! WKLc2 -/
set_option Elab.async false
set_option linter.all false
set_option maxRecDepth 100000
set_option maxHeartbeats 1000000
/-! y = [elt for tg in it for tg1 in it1 if ..] -/
namespace WK
open PySem PySem.Spec PyProof.Rows L2
def iB (X : Cx) (scope : Scope) (tg it : Expr) : TI := fun σ H Q => ∀ s0 H0 C cl fp, wI (X.blk s0 H0 scope (compEnvC scope cl C X.env) fp) tg it σ H Q
section
variable {X : Cx} {k : Nat} {it tg elt it1 tg1 : Expr} {ifs : List Expr} {env env1 : Nv} {H : Hp} {D : Ends} {items : List PyData} {items2 : List PyData} {pos p' : Pos} {sc scope : Scope} {own own1 own2 : List (Str × Nat)} {owx owx2 : List Addr} {rest : List Stmt} {n : Str} {q : Pos} {i : Nat} {nv : Addr → Nv}
theorem piB (s0 : Shared) (H0 : Hp) (C : Addr) (cl : List (Str × Addr)) (fp : List Addr) : PI (X.blk s0 H0 scope (compEnvC scope cl C X.env) fp) tg it (iB X scope tg it) := ⟨fun pins s σ H Q I h => pi_w.run pins s σ H Q I (h s0 H0 C cl fp)⟩
theorem go_setLc2 (t : PyData → PyData → Bool) (f : PyData → PyData → PyData) (A : Hs X k) (hs : X.env.scope = sc) (hi : EvI X tg it env H items owx) (hz : ∀ d ∈ items, ((items2.filter (t d)).map (f d)).length ≤ 100) (hz1 : items.length ≤ 100000) {N : List Str} (hN : env.map (·.1) = N) (ok : ownC sc scope N own = true) (cap : Cap (relS scope sc) (own.map (·.2)) 0 env env1) (howx : ∀ b ∈ owx2, ∃ u, H b = some u) (hown : own = own1 ++ own2)
    (turn : ∀ d ∈ items, ∃ env2, Tgt tg d env1 own1 env2 ∧ (∀ X', Hs X' k → X'.env.scope = relS scope sc → EvI X' tg1 it1 env2 H items2 owx2) ∧ ∃ env3, Cap (relS scope sc) (own2.map (·.2)) 0 env2 env3 ∧ ∀ d1 ∈ items2, ∃ env4, Tgt tg1 d1 env3 own2 env4 ∧ ∀ X', Hs X' k → X'.env.scope = relS scope sc → EvTs X' ifs env4 H (t d d1) ∧ (t d d1 = true → EvD X' elt env4 H (f d d1)))
    (hp : ∀ a, Put env i n (.v (.ref a)) (nv a)) (sw : swL sc scope n pos q = true) (kk : ∀ a H1, H a = none → Ex H H1 → Lst H1 a (items.flatMap fun d => (items2.filter (t d)).map (f d)) → Go X rest (nv a) H1 D)
    (hf : ∀ x, foldedSetIterable it X.env x = pure x := by intro _; rfl) (hf1 : ∀ env x, foldedSetIterable it1 env x = pure x := by intro _ _; rfl) : Go X (.Assign [.Name n q] (.ListComp elt [⟨tg, it, [], 0⟩, ⟨tg1, it1, ifs, 0⟩] scope pos) p' :: rest) env H D := ⟨fun σ H1 e0 okk => by
  have hl : X.env.scope.names.lookup n = some .local := by
    rw [hs]
    unfold swL at sw
    simp only [Bool.and_eq_true, decide_eq_true_eq] at sw
    exact sw.1.1.2
  have hsw := swL_of (elt := elt) (gs := [⟨tg, it, [], 0⟩, ⟨tg1, it1, ifs, 0⟩]) (ln := p'.line) hs sw
  subst hs hN
  obtain ⟨ok1, ok2⟩ := Bool.and_eq_true_iff.mp ok
  rw [← okk.names] at ok1
  refine ⟨_, pss_cons (ps_setLc2 (vs1 := own2.map (·.2)) (g := gB X scope tg) (tt := tB X scope []) (wi1 := iB X scope tg1 it1) (g1 := gB X scope tg1) (tt1 := tB X scope ifs) (te := eB X scope elt) A.calm A.nd (by rw [okk.names]; exact (hp 0).name.1) hl hsw pi_w (blkOk_by ok1) (fun j hj => by rw [hown, List.map_append]; exact List.mem_append_right _ hj) pgB ptB piB pgB ptB peB hf hf1) pb_w, ?_⟩
  refine hi.run σ H1 e0 okk _ fun J H2 o e2 ho I => fun Dl hD => ?_
  have hex := e0.trans e2
  have okO1 : own1.all (fun p => locB scope p.1) = true := by
    rw [hown, List.all_append] at ok2
    exact (Bool.and_eq_true_iff.mp ok2).1
  have okO2 : own2.all (fun p => locB scope p.1) = true := by
    rw [hown, List.all_append] at ok2
    exact (Bool.and_eq_true_iff.mp ok2).2
  refine ⟨fun i m H' => m = items.length - i ∧ i ≤ items.length ∧ Ex H2 H' ∧ Lst H' Dl ((items.take i).flatMap fun d => (items2.filter (t d)).map (f d)), ⟨items.length, rfl, Nat.zero_le _, Ex.new hD, [], upd_same, .nil⟩, ?_⟩
  rintro i m H' ⟨rfl, hin, p1, p2⟩
  have G0 : TLe H2 H' ∧ ∀ b ∈ o, H' b = H2 b := ⟨p1.t, fun b hb => by
    obtain ⟨_, u, hu⟩ := ho b hb
    rw [hu]
    exact p1 _ _ hu⟩
  by_cases hge : ¬ i < items.length
  · have e : i = items.length := by omega
    subst e
    rw [List.take_of_length_le (Nat.le_refl _)] at p2
    refine .inl ⟨I.walk.stops H' G0, ?_⟩
    exact (kk Dl H' (e0.back (e2.back hD)) (hex.trans p1) p2).run _ H' (Ex.refl _) ((okk.mono (e2.trans p1).t).put (hp Dl) rfl (.inl hl))
  have hlt : i < items.length := Decidable.not_not.mp hge
  refine .inr ⟨I.walk.goes i H' hlt G0, fun H'' => Ex H2 H'' ∧ Lst H'' Dl ((items.take (i + 1)).flatMap fun d => (items2.filter (t d)).map (f d)), fun H'' w => ⟨_, by omega, rfl, hlt, w.1, w.2⟩, fun x H'' hy => ?_⟩
  obtain ⟨ex, d, hd, r⟩ := I.walk.yields i H' x H'' hlt G0 hy
  have hdm := List.mem_of_getElem? hd
  obtain ⟨env2, T, hi1, env3, cap2, tr⟩ := turn d hdm
  have hEx : Ex H H'' := (hex.trans p1).trans ex
  have take1 : (items.take (i + 1)).flatMap (fun d => (items2.filter (t d)).map (f d)) = (items.take i).flatMap (fun d => (items2.filter (t d)).map (f d)) ++ (items2.filter (t d)).map (f d) := by
    rw [List.take_add_one, hd, List.flatMap_append]
    simp
  have hlen : ((items.take i).flatMap (fun d => (items2.filter (t d)).map (f d))).length ≤ 10000000 := by
    rw [List.length_flatMap]
    have hs : ∀ (l : List PyData), (∀ d ∈ l, d ∈ items) → (l.map fun d => ((items2.filter (t d)).map (f d)).length).sum ≤ 100 * l.length := by
      intro l
      induction l with
      | nil => intro _; exact Nat.le_refl _
      | cons y l ih =>
        intro hm
        rw [List.map_cons, List.sum_cons, List.length_cons]
        have h1 := hz y (hm y List.mem_cons_self)
        have h2 := ih fun z hz => hm z (List.mem_cons_of_mem _ hz)
        omega
    have := hs (items.take i) fun d hd => List.mem_of_mem_take hd
    rw [List.length_take] at this
    omega
  intro s0 H0 C cl fp
  have nvok : NvOk (X.blk s0 H0 scope (compEnvC scope cl C X.env) fp) H'' (wipe σ (own.map (·.2))) env1 := by
    refine ⟨okk.names.trans cap.names.symm, cap.sl (okk.sl.mono ((e2.trans p1).trans ex).t) (wipe_length _ _) (fun j hj => ?_), cap.vis⟩
    rw [wipe_get, if_neg]
    rintro ⟨z, _⟩
    rw [Nat.zero_add, List.contains_iff_mem.mpr z] at hj
    cases hj
  refine T.w (X := X.blk s0 H0 scope (compEnvC scope cl C X.env) fp) A.calm A.nd nvok (blk_loc okO1) r fun σ2 ok3 off => ⟨?_, ?_⟩
  · refine Off.wipe (vs := own.map (·.2)) ⟨off.1, fun j hj => off.2 j fun z => hj ?_⟩
    rw [hown, List.map_append]
    exact List.mem_append_left _ z
  intro s1 H5 C1 cl1 fp1
  refine (ts_nil (X := X.blk s1 H5 scope (compEnvC scope cl1 C1 X.env) fp1) (H := H'') (env := env2)).run σ2 H'' (Ex.refl _) (ok3.to rfl rfl) _ fun H3 e3 => ?_
  rw [if_pos rfl]
  intro s6 H6 C6 cl6 fp6
  have ok3' : NvOk (X.blk s6 H6 scope (compEnvC scope cl6 C6 X.env) fp6) H3 σ2 env2 := NvOk.mono e3.t (ok3.to rfl rfl)
  refine (hi1 _ (A.blk s6 H6 cl6 C6 fp6) rfl).run σ2 H3 (hEx.trans e3) ok3' _ fun J1 H4 o1 e4 ho1 I1 => ?_
  have hlD : Lst H4 Dl ((items.take i).flatMap fun d => (items2.filter (t d)).map (f d)) := (p2.ex (ex.trans e3)).ex e4
  have hnD : ∀ b ∈ o1, b ≠ Dl := fun b hb z => by
    rcases (ho1 b hb).1 with w | w
    · rw [z] at w
      obtain ⟨vs, w2, _⟩ := p2.ex (ex.trans e3)
      rw [w] at w2
      cases w2
    · obtain ⟨u, w2⟩ := howx b w
      have := hex _ _ w2
      rw [z, hD] at this
      cases this
  refine ⟨fun j m H' => m = items2.length - j ∧ j ≤ items2.length ∧ ExL Dl H4 H' ∧ Lst H' Dl ((items.take i).flatMap (fun d => (items2.filter (t d)).map (f d)) ++ ((items2.take j).filter (t d)).map (f d)), ⟨items2.length, rfl, Nat.zero_le _, (Ex.refl H4).l, by
    rw [List.take_zero]
    simpa using hlD⟩, ?_⟩
  rintro j m G ⟨rfl, hjn, x1, x2⟩
  have G1 : TLe H4 G ∧ ∀ b ∈ o1, G b = H4 b := ⟨x1.t hlD.not, fun b hb => by
    obtain ⟨_, u, hu⟩ := ho1 b hb
    rw [hu]
    exact x1 b _ (hnD b hb) hu⟩
  by_cases hgj : ¬ j < items2.length
  · have e : j = items2.length := by omega
    subst e
    rw [List.take_of_length_le (Nat.le_refl _), ← take1] at x2
    refine .inl ⟨I1.walk.stops G G1, fun b u hb => ?_, x2⟩
    exact x1 b _ (ne_of_none hb hD) (e4 _ _ (e3 _ _ (ex _ _ (p1 _ _ hb))))
  have hjl : j < items2.length := Decidable.not_not.mp hgj
  refine .inr ⟨I1.walk.goes j G hjl G1, fun G' => ExL Dl H4 G' ∧ Lst G' Dl ((items.take i).flatMap (fun d => (items2.filter (t d)).map (f d)) ++ ((items2.take (j + 1)).filter (t d)).map (f d)), fun G' w => ⟨_, by omega, rfl, hjl, w.1, w.2⟩, fun y G' hy => ?_⟩
  obtain ⟨exg, d1, hd1, r1⟩ := I1.walk.yields j G y G' hjl G1 hy
  obtain ⟨env4, T1, tr1⟩ := tr d1 (List.mem_of_getElem? hd1)
  have exG : ∀ b u, b ≠ Dl → H3 b = some u → G' b = some u := fun b u n z => exg _ _ (x1 b u n (e4 _ _ z))
  have exHG : Ex H G' := fun b u z => exG b u (ne_of_none (hex _ _ z) hD) (e3 _ _ (hEx _ _ z))
  have t3 : TLe H3 G' := fun b xs z => exG b _ (fun w => by
    rw [w] at z
    obtain ⟨vs, w2, _⟩ := p2.ex (ex.trans e3)
    rw [z] at w2
    cases w2) z
  intro s7 H7 C7 cl7 fp7
  have nvok2 : NvOk (X.blk s7 H7 scope (compEnvC scope cl7 C7 X.env) fp7) G' (wipe σ2 (own2.map (·.2))) env3 := by
    refine ⟨ok3'.names.trans cap2.names.symm, cap2.sl (ok3'.sl.mono t3) (wipe_length _ _) (fun j hj => ?_), cap2.vis⟩
    rw [wipe_get, if_neg]
    rintro ⟨z, _⟩
    rw [Nat.zero_add, List.contains_iff_mem.mpr z] at hj
    cases hj
  refine T1.w (X := X.blk s7 H7 scope (compEnvC scope cl7 C7 X.env) fp7) A.calm A.nd nvok2 (blk_loc okO2) r1 fun σ3 ok4 off1 => ⟨Off.wipe off1, ?_⟩
  intro s8 H8 C8 cl8 fp8
  obtain ⟨tr2, _⟩ := tr1 _ (A.blk s8 H8 cl8 C8 fp8) rfl
  refine tr2.run σ3 G' exHG (ok4.to rfl rfl) _ fun G3 g3 => ?_
  have take2 : (items2.take (j + 1)).filter (t d) = (items2.take j).filter (t d) ++ [d1].filter (t d) := by
    rw [List.take_add_one, hd1, List.filter_append]
    rfl
  cases ht : t d d1 with
  | true =>
    rw [if_pos rfl]
    intro s9 H9 C9 cl9 fp9
    obtain ⟨_, tr3⟩ := tr1 _ (A.blk s9 H9 cl9 C9 fp9) rfl
    refine (tr3 ht).run σ3 G3 (exHG.trans g3) (NvOk.mono g3.t (NvOk.to (Z := X.blk s9 H9 scope (compEnvC scope cl9 C9 X.env) fp9) ok4 rfl rfl)) _ fun y4 G4 g4 r4 => ?_
    have hl4 : Lst G4 Dl ((items.take i).flatMap (fun d => (items2.filter (t d)).map (f d)) ++ ((items2.take j).filter (t d)).map (f d)) := ((x2.ex exg).ex g3).ex g4
    obtain ⟨acc, h1, h2⟩ := id hl4
    refine ⟨acc, h1, ?_, (x1.trans (exg.trans (g3.trans g4)).l).trans fun b u n z => by rw [upd_ne n]; exact z, acc ++ [y4], upd_same, ?_⟩
    · rw [h2.len, List.length_append]
      have a1 : (((items2.take j).filter (t d)).map (f d)).length ≤ ((items2.filter (t d)).map (f d)).length := by
        rw [List.length_map, List.length_map]
        exact (List.Sublist.filter (t d) (List.take_sublist j items2)).length_le
      have a2 := hz d hdm
      have h6 : sizeLine = 16777216 := sizeLine_eq
      omega
    · rw [take2, List.map_append, ← List.append_assoc]
      have h7 : ([d1].filter (t d)).map (f d) = [f d d1] := by simp [ht]
      rw [h7]
      refine (h2.snoc r4).mono (TLe.upd fun xs z => ?_)
      rw [h1] at z
      cases z
  | false =>
    rw [if_neg (by decide)]
    have h7 : ([d1].filter (t d)).map (f d) = [] := by simp [ht]
    refine ⟨x1.trans (exg.trans g3).l, ?_⟩
    rw [take2, List.map_append, h7, List.append_nil]
    exact (x2.ex exg).ex g3⟩
end
end WK
/-! WKLots -/
set_option Elab.async false
set_option linter.all false
set_option maxRecDepth 100000
set_option maxHeartbeats 1000000
/-! lots_of -/
namespace WK
open PySem PySem.Spec PyProof.Rows L2
def lotB (lot : List Int) (one : Int) : Bool := lot.isEmpty || decide (lot.getLastD 0 < one)
def lotNext (ns lot : List Int) : List Int := ns.filter (lotB lot)
def lotsOf (ns : List Int) : Nat → List (List Int)
  | 0 => [[]]
  | m + 1 => (lotsOf ns m).flatMap fun lot => (lotNext ns lot).map fun one => lot ++ [one]
def lotT : PyData → PyData → Bool := fun d d1 => match d1 with
  | .int one => lotB (unK d) one
  | _ => false
def lotF : PyData → PyData → PyData := fun d d1 => match d1 with
  | .int one => kD (unK d ++ [one])
  | _ => .none
theorem lots_map (ns : List Int) (ls : List (List Int)) : ((ls.map kD).flatMap fun d => ((zD ns).filter (lotT d)).map (lotF d)) = (ls.flatMap fun lot => (lotNext ns lot).map fun one => lot ++ [one]).map kD := by
  rw [List.flatMap_map, List.map_flatMap]
  congr 1
  funext lot
  unfold zD lotNext
  rw [List.filter_map, List.map_map, List.map_map]
  have e : lotT (kD lot) ∘ PyData.int = lotB lot := funext fun one => by
    show lotB (unK (kD lot)) one = _
    rw [unK_kD]
  rw [e]
  apply List.map_congr_left
  intro one _
  show kD (unK (kD lot) ++ [one]) = kD (lot ++ [one])
  rw [unK_kD]
/-! how many there are -/
def wt (ns lot : List Int) : Nat := 2 ^ (lotNext ns lot).length
theorem pow_sum : ∀ L : List Int, L.Pairwise (· < ·) → (L.map fun x => 2 ^ (L.filter fun y => decide (x < y)).length).sum ≤ 2 ^ L.length
  | [], _ => by simp
  | y :: L, h => by
    obtain ⟨h1, h2⟩ := List.pairwise_cons.mp h
    have ih := pow_sum L h2
    have e1 : (y :: L).filter (fun z => decide (y < z)) = L := by
      rw [List.filter_cons, if_neg (by simp), List.filter_eq_self.mpr fun z hz => decide_eq_true (h1 z hz)]
    have e2 : (L.map fun x => 2 ^ ((y :: L).filter fun z => decide (x < z)).length) = L.map fun x => 2 ^ (L.filter fun z => decide (x < z)).length := by
      apply List.map_congr_left
      intro x hx
      have := h1 x hx
      rw [List.filter_cons, if_neg (by simp; omega)]
    rw [List.map_cons, List.sum_cons, e1, e2, List.length_cons, Nat.pow_succ]
    omega
theorem last_snoc (lot : List Int) (one : Int) : lotB (lot ++ [one]) = fun y => decide (one < y) := by
  funext y
  unfold lotB
  rw [List.getLastD_concat]
  simp
theorem next_sum (ns lot : List Int) (h : ns.Pairwise (· < ·)) : ((lotNext ns lot).map fun one => wt ns (lot ++ [one])).sum ≤ wt ns lot := by
  have h2 : (lotNext ns lot).Pairwise (· < ·) := h.sublist List.filter_sublist
  have e : ((lotNext ns lot).map fun one => wt ns (lot ++ [one])) = (lotNext ns lot).map fun x => 2 ^ ((lotNext ns lot).filter fun y => decide (x < y)).length := by
    apply List.map_congr_left
    intro one hone
    unfold wt
    congr 2
    have e1 : lotNext ns (lot ++ [one]) = ns.filter fun y => decide (one < y) := by
      unfold lotNext
      rw [last_snoc]
    rw [e1]
    unfold lotNext
    rw [List.filter_filter]
    apply List.filter_congr
    intro y _
    have hb := (List.mem_filter.mp hone).2
    unfold lotB at hb ⊢
    cases hl : lot.isEmpty with
    | true => simp
    | false =>
      rw [hl, Bool.false_or, decide_eq_true_eq] at hb
      by_cases hy : one < y
      · rw [decide_eq_true hy, Bool.false_or, decide_eq_true (by omega : lot.getLastD 0 < y)]
        rfl
      · rw [decide_eq_false hy]
        rfl
  rw [e]
  exact pow_sum _ h2
theorem lots_wt (ns : List Int) (h : ns.Pairwise (· < ·)) : ∀ m : Nat, ((lotsOf ns m).map (wt ns)).sum ≤ 2 ^ ns.length
  | 0 => by
    show (wt ns [] + 0) ≤ _
    have : lotNext ns [] = ns := List.filter_eq_self.mpr fun _ _ => rfl
    unfold wt
    rw [this]
    exact Nat.le_refl _
  | m + 1 => by
    have ih := lots_wt ns h m
    refine Nat.le_trans ?_ ih
    have key : ∀ ls : List (List Int), ((ls.flatMap fun lot => (lotNext ns lot).map fun one => lot ++ [one]).map (wt ns)).sum ≤ (ls.map (wt ns)).sum := by
      intro ls
      induction ls with
      | nil => exact Nat.le_refl _
      | cons x ls ih =>
        rw [List.flatMap_cons, List.map_append, List.sum_append, List.map_cons, List.sum_cons, List.map_map]
        have := next_sum ns x h
        exact Nat.add_le_add this ih
    exact key _
theorem lots_len (ns : List Int) (h : ns.Pairwise (· < ·)) (hl : ns.length ≤ 12) (m : Nat) : (lotsOf ns m).length ≤ 4096 := by
  have h1 := lots_wt ns h m
  have h2 : (lotsOf ns m).length ≤ ((lotsOf ns m).map (wt ns)).sum := by
    generalize lotsOf ns m = ls
    induction ls with
    | nil => exact Nat.le_refl _
    | cons x ls ih =>
      rw [List.map_cons, List.sum_cons, List.length_cons]
      have : 1 ≤ wt ns x := Nat.one_le_two_pow
      omega
  have h3 : 2 ^ ns.length ≤ 2 ^ 12 := Nat.pow_le_pow_right (by omega) hl
  omega
theorem lots_each (ns : List Int) : ∀ (m : Nat) (lot : List Int), lot ∈ lotsOf ns m → lot.length = m
  | 0, lot, h => by
    have e : lot = [] := by simpa [lotsOf] using h
    rw [e]
    rfl
  | m + 1, lot, h => by
    obtain ⟨l2, h1, h2⟩ := List.mem_flatMap.mp h
    obtain ⟨one, _, rfl⟩ := List.mem_map.mp h2
    rw [List.length_append, lots_each ns m l2 h1]
    rfl
theorem last_at {lot : List Int} (h : PyData.eqv (.tuple (zD lot)) (.tuple []) = false) : atI (zD lot) (0 - 1) = some (.int (lot.getLastD 0)) := by
  rw [eqv_nil] at h
  have hne : lot ≠ [] := by
    intro z
    rw [z] at h
    cases h
  have hpos : 0 < lot.length := List.length_pos_iff.mpr hne
  unfold atI ixN
  rw [zD_len, if_neg (by omega), if_pos (by omega)]
  have e : ((0 - 1 : Int) + lot.length).toNat = lot.length - 1 := by omega
  rw [e, Option.bind_some, zD_get]
  rw [← List.getLast?_eq_getElem?, List.getLastD_eq_getLast?, List.getLast?_eq_some_getLast hne]
  rfl
def SpLots : Sp := fun vs H Q _ => ∃ a ns m, vs = [.ref a, .int m] ∧ Lst H a (zD ns) ∧ ns.Pairwise (· < ·) ∧ ns.length ≤ 12 ∧ 0 ≤ m ∧ m ≤ 100 ∧ ∀ p H', H p = none → Ex H H' → Lst H' p ((lotsOf ns m.toNat).map kD) → Q (.ref p) H'
theorem len_lots_of : ∀ vs H Q E, SpLots vs H Q E → vs.length = (["numbers", "many"] : List Str).length := by
  rintro vs H Q E ⟨a, ns, m, rfl, _⟩
  rfl
theorem sc_lots_of : FnScope ((["numbers", "many"] : List Str) ++ (["found", "turn", "lot", "one"] : List Str)) ["numbers", "many"] (defScope (top 89)) := fnScope_by (by decide +kernel)
instance : HasCal "lots_of" 1 ["numbers", "many"] SpLots := ⟨fun P w K mg T => by
  refine Cal.mk' T (i := 89) (N := (["numbers", "many"] : List Str) ++ (["found", "turn", "lot", "one"] : List Str)) (List.mem_of_getElem? (i := 43) rfl) (by decide +kernel) sc_lots_of (fun _ _ _ _ _ _ us hl => match us, hl with | [_, _], _ => rfl) len_lots_of fun X A hs hN hf vs H Q E h => ?_
  obtain ⟨na, ns, m, rfl, hln0, hpw, hnl, hm1, hm2, hq⟩ := h
  have g : Go X (defBody (top 89)) ([("numbers", .v (.ref na)), ("many", .d (.int m)), ("found", .un), ("turn", .un), ("lot", .un), ("one", .un)] : Nv) H { nx := fun _ H' => Q .non H', rt := Q } := by
    refine go_setL A (el_lst (ea_cons (ed_tup ea_nil) ea_nil)) (fun _ => (.next (.next (.here)))) (locN hf hs (by decide +kernel)) fun a0 H0 nn e0 hfo0 => ?_
    have hln := hln0.ex e0
    refine go_forQ (fun G i nv H' => Ex G H' ∧ ∃ a s1 s2 s3, nv = ([("numbers", .v (.ref na)), ("many", .d (.int m)), ("found", .v (.ref a)), ("turn", s1), ("lot", s2), ("one", s3)] : Nv) ∧ H a = none ∧ Lst H' a ((lotsOf ns i).map kD)) A (ei_range A hs (by decide +kernel) (ed_var (.next (.here)) hs (by decide +kernel)) (by first | omega | decide))
      (fun G e => ⟨Ex.refl G, a0, _, _, _, rfl, nn, hfo0.ex e⟩) (fun G o e ho i nv H' p => ⟨p.1.t, fun b hb => by
        obtain ⟨_, u, hu⟩ := ho b hb
        rw [hu]
        exact p.1 b _ hu⟩) ?_ ?_
    · rintro G i d nv H' eG hd ⟨ex, a, s1, s2, s3, rfl, hna, hla⟩
      obtain rfl : PyData.int (i : Int) = d := by
        unfold rangeD at hd
        rw [List.getElem?_map] at hd
        cases hr : (List.range m.toNat)[i]? with
        | none =>
          rw [hr] at hd
          cases hd
        | some j =>
          rw [hr] at hd
          obtain ⟨hj, hj2⟩ := List.getElem?_eq_some_iff.mp hr
          rw [List.getElem_range] at hj2
          subst hj2
          exact Option.some.inj hd
      refine ⟨_, _, .name (.next (.next (.next (.here)))), fun q hq => locN hf hs (by simp at hq; rcases hq with rfl; decide +kernel), fun H3 D' e3 hnx hct hbk hrt => ?_⟩
      have hl3 := hla.ex e3
      have hn3 := ((hln.ex eG).ex ex).ex e3
      refine go_setLc2 (N := ["numbers", "many", "found", "turn", "lot", "one"]) (own := [("lot", 4), ("one", 5)]) (own1 := [("lot", 4)]) (own2 := [("one", 5)]) (owx2 := [na]) lotT lotF A hs (ei_lst (ev_var (.next (.next (.here))) hs (by decide +kernel)) hl3) (items2 := zD ns) ?_ ?_ rfl (by decide +kernel) (.keep (by decide +kernel) (by decide) (.drop (.drop (.drop (.drop (.drop .nil)))))) ?_ rfl ?_ (fun _ => (.next (.next (.here)))) (by decide +kernel) fun a1 H4 n1 e4 hl4 => go_nil fun σ H5 e5 ok5 => ?_
      · intro d hd
        rw [List.length_map]
        have := List.length_filter_le (lotT d) (zD ns)
        rw [zD_len] at this
        omega
      · rw [List.length_map]
        have := lots_len ns hpw hnl i
        omega
      · intro b hb
        have e : b = na := by simpa using hb
        obtain ⟨vs, w, _⟩ := hn3
        exact ⟨_, by rw [e]; exact w⟩
      · intro d hd
        obtain ⟨lot, hlot, rfl⟩ := List.mem_map.mp hd
        have hll := lots_len ns hpw hnl i
        have hle := lots_each ns i lot hlot
        have hi : i < m.toNat := by
          have := (List.getElem?_eq_some_iff.mp ‹_›).1
          rw [rangeD_len] at this
          exact this
        refine ⟨_, .name (.next (.next (.next (.next (.here))))), fun X A hs => ei_lst (ev_var .here hs (by decide +kernel)) hn3, _, (.keep (by decide +kernel) (by decide) (.drop (.drop (.drop (.keep (by decide +kernel) (by decide) (.drop .nil)))))), fun d1 hd1 => ?_⟩
        obtain ⟨one, hone, rfl⟩ := mem_zD hd1
        refine ⟨_, .name (.next (.next (.next (.next (.next (.here)))))), fun X A hs => ⟨ts_one ((et_bool (ew_or (et_eq A (ed_var (.next (.next (.next (.next (.here))))) hs (by decide +kernel)) (ed_tup ea_nil) (shaped_zD _) (by decide +kernel)) (fun hne => ew_or1 (et_gt (ed_var (.next (.next (.next (.next (.next (.here)))))) hs (by decide +kernel)) (ed_ix (ed_var (.next (.next (.next (.next (.here))))) hs (by decide +kernel)) (ed_neg ed_int) (last_at hne)))))).is (by rw [eqv_nil]; show _ = lotB (unK (kD lot)) one; rw [unK_kD]; rfl)), fun _ => ?_⟩⟩
        exact (ed_cat (ed_var (.next (.next (.next (.next (.here))))) hs (by decide +kernel)) (ed_tup (ea_cons (ed_var (.next (.next (.next (.next (.next (.here)))))) hs (by decide +kernel)) ea_nil)) (by rw [zD_len]; simp only [List.length_cons, List.length_nil]; omega)).is (by
          show _ = kD (unK (kD lot) ++ [one])
          rw [unK_kD]
          unfold kD zD
          rw [List.map_append]
          rfl)
      · rw [lots_map] at hl4
        exact hnx σ H5 _ ok5 ⟨((ex.trans e3).trans e4).trans e5, a1, _, _, _, rfl, ((((e0.trans eG).trans ex).trans e3).back n1), hl4.ex e5⟩
    · rintro G nv H' eG ⟨ex, a, s1, s2, s3, rfl, hna, hla⟩
      refine go_retV (ev_var (.next (.next (.here))) hs (by decide +kernel)) fun H5 e5 => ?_
      rw [rangeD_len] at hla
      exact hq a H5 hna (((e0.trans eG).trans ex).trans e5) (hla.ex e5)
  exact g.run _ H (Ex.refl _) ⟨hN, .cons rfl (.cons (.int _) (nva_un ["found", "turn", "lot", "one"])), by rw [hs]; exact vis1 (by decide +kernel) (vis1 (by decide +kernel) (unM_vis ["found", "turn", "lot", "one"]))⟩⟩
end WK
/-! WKVals -/
set_option Elab.async false
set_option linter.all false
set_option maxRecDepth 100000
set_option maxHeartbeats 1000000
/-! d.values() of a dict with tuple keys, walked. -/
namespace PySem
open Sem (wp)
section
variable {pg : Program} {wd : World} {Ar : Around} {Er : Value → Shared → Prop} {st : Shared} {d vw it : Addr} {od : Obj} {es : Array DictEntry} {ep i : Nat}
theorem wk_valuesMeets (d : Addr) (od : Obj) (nsys : (d == sysModules) = false) : MeetsIn pg wd (Builtin.«dict.values» ⟨[.ref d], []⟩) (fun _ R s => (s.heap.get? d = some od ∧ od.ExactDict) ∧ R (.ok (.ret (.ref s.heap.objs.size))) { s with heap := s.heap.push { cls := .type "dict_values", data := .fields #[.ref d] } }) := .of_wp fun A R s w => by
  obtain ⟨⟨ho, hx⟩, h⟩ := w
  have ty : s.TypeIs (.ref d) "dict" := ⟨od, ho, hx.1⟩
  refine wpAny_bind ?_
  unfold Builtin.Dict.noArgs
  refine wpAny_bind (wpAny_notOrdered_dict ty ?_)
  show wpAny _ _ (pure d) _ _ s
  refine wpAny_pure ?_
  show wpAny _ _ (Builtin.Dict.showsAll d >>= _) _ _ s
  unfold Builtin.Dict.showsAll
  rw [if_neg (by rw [nsys]; exact Bool.false_ne_true)]
  exact wpAny_bind (wpAny_pure (wpAny_bind (wpAny_newObj_type (wpAny_pure ⟨_, rfl, h⟩))))
theorem wk_valuesIter {Qr : Value → Shared → Prop} (hv : st.heap.IsValuesView vw d) (ho : st.heap.get? d = some od) (hd : od.data = .dict es ep)
    (k : Qr (.ref st.heap.objs.size) { st with heap := st.heap.push { cls := .type "dict_valueiterator", data := .fields #[.ref d, .int 0 0, .int es.size 0, .int ep 0] } }) : wpAny (model pg wd) Ar (pyIter (.ref vw)) Qr Er st := by
  obtain ⟨o1, g1, g2, g3⟩ := id hv
  refine wpAny_pyIter_slot hv.typeIs F.slot_dict_values_iter (wpAny_call_entry F.slot_dict_values_iter hv.typeIs F.entry_dict_values_iter ?_ (F.args_dict_values_iter_1 _))
  unfold Builtin.«dict_values.__iter__»
  refine wpAny_bind (wpAny_pure (wpAny_bind ?_))
  unfold Builtin.Dict_items.dictOf
  refine wpAny_bind (wpAny_field g1 g3 (x := .ref d) rfl (wpAny_pure (wpAny_bind ?_)))
  unfold Builtin.Dict_items.newIterator
  refine wpAny_bind (wpAny_dictEntries ho hd (wpAny_bind (wpAny_dictEpoch ho hd ?_)))
  have own : Builtin.Dict_items.ownsTuple "dict_valueiterator" = false := by decide
  simp only [own, Bool.false_eq_true, if_false]
  refine wpAny_newObj_type (wpAny_pure ⟨_, rfl, "dict_valueiterator", _, ⟨_, Heap.get?_push_size _ rfl, rfl⟩, F.slot_dict_valueiterator_next.lookup, ?_⟩)
  simpa [rawInt] using k
theorem wk_nextVal {en : DictEntry} {n : Nat} {Qr : Option Value → Shared → Prop} (hit : st.heap.IsValIter it d i n ep) (ho : st.heap.get? d = some od) (hd : od.data = .dict es ep) (sz : es.size = n) (hx : es[i]? = some en) (k : ∀ g, g.IsValIter it d (i + 1) n ep → Heap.SameBut it st.heap g → Qr (some en.val) { st with heap := g }) :
    wpAny (model pg wd) Ar (pyNext (.ref it)) Qr Er st := by
  obtain ⟨oi, gi, ci, di⟩ := id hit
  have ty := hit.typeIs
  unfold pyNext
  refine wpAny_bind (wpAny_attempt (wpAny_callSpecial?_slot (name := Str.ofString "__next__") ty F.slot_dict_valueiterator_next (wpAny_call_entry F.slot_dict_valueiterator_next ty F.entry_dict_valueiterator_next ?_ (F.args_dict_valueiterator_next_1 _))))
  refine wpAny_bind (wpAny_pure (wpAny_bind (wpAny_bind ?_)))
  first | refine wpAny_bind (wpAny_typeNameOfWhole_valiter ty (wpAny_pure ?_)) | refine wpAny_bind (wpAny_typeNameOf_valiter ty (wpAny_pure ?_))
  refine wpAny_bind (wpAny_fieldsOf gi di ?_)
  have own : Builtin.Dict_items.ownsTuple "dict_valueiterator" = false := by decide
  simp only [own, Bool.false_eq_true, if_false]
  show wpAny _ _ (if (Value.ref d == Value.none) = true then _ else _) _ _ st
  rw [if_neg (show ¬ ((Value.ref d == Value.none) = true) from Bool.false_ne_true)]
  refine wpAny_bind (wpAny_pure (wpAny_bind (wpAny_dictEntries ho hd ?_)))
  rw [if_neg (by rw [sz]; simp)]
  refine wpAny_bind (wpAny_pure (wpAny_bind (wpAny_dictEpoch ho hd ?_)))
  rw [if_neg (by simp)]
  refine wpAny_pure ?_
  obtain ⟨lt, ee⟩ := Array.getElem?_eq_some_iff.mp hx
  simp only [show ¬ ((i : Int) < 0) from by omega, if_false, Int.toNat_natCast, Array.getElem?_eq_getElem lt]
  refine wpAny_bind ?_
  first | refine wpAny_bind (wpAny_typeNameOfWhole_valiter ty (wpAny_pure ?_)) | refine wpAny_bind (wpAny_typeNameOf_valiter ty (wpAny_pure ?_))
  refine wpAny_bind (wpAny_isOneOf_valiter ty ?_)
  show wpAny _ _ (setField (.ref it) 1 (rawInt ((i : Int) + 1)) >>= _) _ _ st
  refine wpAny_bind (wpAny_setField gi di (by simp) ?_)
  have hit2 : (st.heap.update it (Obj.mapFields (·.setIfInBounds 1 (rawInt ((i : Int) + 1))))).IsValIter it d (i + 1) n ep := ⟨_, Heap.get?_update_self _ gi (Obj.isFreed_of_fields (Obj.data_mapFields di _)), (Obj.cls_mapFields ..).trans ci, by rw [Obj.data_mapFields di]; simp [rawInt]⟩
  refine wpAny_bind (wpAny_holding ?_)
  have ty2 : Shared.TypeIs { st with heap := st.heap.update it (Obj.mapFields (·.setIfInBounds 1 (rawInt ((i : Int) + 1)))) } (.ref it) "dict_valueiterator" := hit2.typeIs
  refine wpAny_bind (wpAny_isOneOf_valiter ty2 (wpAny_bind (wpAny_isOneOf_valiter ty2 ?_)))
  show wpAny _ _ (pure es[i].val) _ _ _
  exact wpAny_pure (wpAny_pure ⟨_, rfl, wpAny_pure (by rw [ee]; exact k _ hit2 (Heap.SameBut.update ..))⟩)
theorem wk_endVal {n : Nat} {Qr : Option Value → Shared → Prop} (hh : Ar.handled = none) (hit : st.heap.IsValIter it d i n ep) (ho : st.heap.get? d = some od) (hd : od.data = .dict es ep) (sz : es.size = n) (hge : n ≤ i) (k : ∀ g, Heap.ExtBut it st.heap g → Qr none { st with heap := g }) : wpAny (model pg wd) Ar (pyNext (.ref it)) Qr Er st := by
  obtain ⟨oi, gi, ci, di⟩ := id hit
  have ty := hit.typeIs
  unfold pyNext
  refine wpAny_bind (wpAny_attempt (wpAny_callSpecial?_slot (name := Str.ofString "__next__") ty F.slot_dict_valueiterator_next (wpAny_call_entry F.slot_dict_valueiterator_next ty F.entry_dict_valueiterator_next ?_ (F.args_dict_valueiterator_next_1 _))))
  refine wpAny_bind (wpAny_pure (wpAny_bind (wpAny_bind ?_)))
  first | refine wpAny_bind (wpAny_typeNameOfWhole_valiter ty (wpAny_pure ?_)) | refine wpAny_bind (wpAny_typeNameOf_valiter ty (wpAny_pure ?_))
  refine wpAny_bind (wpAny_fieldsOf gi di ?_)
  have own : Builtin.Dict_items.ownsTuple "dict_valueiterator" = false := by decide
  simp only [own, Bool.false_eq_true, if_false]
  show wpAny _ _ (if (Value.ref d == Value.none) = true then _ else _) _ _ st
  rw [if_neg (show ¬ ((Value.ref d == Value.none) = true) from Bool.false_ne_true)]
  refine wpAny_bind (wpAny_pure (wpAny_bind (wpAny_dictEntries ho hd ?_)))
  rw [if_neg (by rw [sz]; simp)]
  refine wpAny_bind (wpAny_pure (wpAny_bind (wpAny_dictEpoch ho hd ?_)))
  rw [if_neg (by simp)]
  refine wpAny_pure ?_
  have ge : es.size ≤ i := by rw [sz]; exact hge
  simp only [show ¬ ((i : Int) < 0) from by omega, if_false, Int.toNat_natCast, Array.getElem?_eq_none ge]
  refine wpAny_bind ?_
  first | refine wpAny_bind (wpAny_typeNameOfWhole_valiter ty (wpAny_pure ?_)) | refine wpAny_bind (wpAny_typeNameOf_valiter ty (wpAny_pure ?_))
  show wpAny _ _ (setField (.ref it) 0 .none >>= _) _ _ st
  refine wpAny_bind (wpAny_setField gi di (by simp) ?_)
  show wpAny _ _ (newExc (.type "StopIteration") [] >>= _) _ _ _
  refine wpAny_bind ?_
  simp only [newExc, newTuple]
  refine wpAny_bind (wpAny_newObj_type (wpAny_bind (m := firstArgMember _ _) (wpAny_of_eq (a := Value.none) (by first | rfl | (simp only [firstArgMember]; rfl)) (wpAny_newObj_type ?_ (by size_fits)))) (by size_fits))
  simp only [raiseNew]
  refine wpAny_bind (wpAny_handled ?_)
  rw [show Ar.in1.handled = none from hh]
  refine wpAny_bind (wpAny_pure (wpAny_throw ?_))
  refine wpAny_bind (wpAny_isInstance (b := true) (T := "StopIteration") ⟨_, Heap.get?_push_size _ rfl, rfl⟩ isSubtype_stop ?_)
  exact wpAny_pure (k _ (((Heap.SameBut.update ..).extBut.push _).push _))
end
end PySem
namespace L2
open PySem PySem.Spec PyProof.Rows
/-- the values of the locked dict at d, keys tuples -/
def Itvt (d : Addr) (o : Obj) (kvs : List (List Key × V)) : It :=
  ⟨fun i H => H d = some (.frz o (.dT kvs)) ∧ i < kvs.length, fun i H x H' => H' = H ∧ ∃ k, kvs[i]? = some (k, x), fun i H => H d = some (.frz o (.dT kvs)) ∧ kvs.length ≤ i⟩
theorem frzV {X : Cx} {pins : List (Addr × Obj)} {σ : St} {H : Hp} {s : Shared} {d : Addr} {o : Obj} {kvs : List (List Key × V)} (I : Inv X pins σ H s) (h : H d = some (.frz o (.dT kvs))) :
    (d == sysModules) = false ∧ s.heap.get? d = some o ∧ o.ExactDict ∧ ∃ (es : Array DictEntry) (ep : Nat), o.data = .dict es ep ∧ es.size = kvs.length ∧ ∀ (i : Nat) (k : List Key) (v : V), kvs[i]? = some (k, v) → ∃ en : DictEntry, es[i]? = some en ∧ RelV v en.val := by
  obtain ⟨hd, z, ns, xs, pr, o2, es, ep, ho, hx, hdt, he, _⟩ := I.hok d _ h
  rw [hd] at ho
  cases ho
  refine ⟨ns, hd, hx, es, ep, hdt, ?_, fun i k v e => ?_⟩
  · have l1 : es.size = xs.length := size_of_entries he
    have l2 : kvs.length = xs.length := Paired.length pr
    omega
  · obtain ⟨b, hb, e1, e2, e3⟩ := paired_get pr e
    have q := entry_at he i
    rw [hb] at q
    exact ⟨_, q, e3⟩
theorem turn_valT {P : Program} {w : World} {K : PySem.W.Frag} {tg : Expr} {d : Addr} {o : Obj} {es : Array DictEntry} {ep : Nat} {kvs : List (List Key × V)} (it : Addr) (hod : o.data = .dict es ep) : Turn P w K tg (Itvt d o kvs) [it] it (fun i h => h.IsValIter it d i kvs.length ep) where
  mem := List.mem_cons_self
  obj := fun i h q b hb => by
    obtain ⟨oi, e, _, dd⟩ := q
    exact ⟨oi, by rw [List.mem_singleton.mp hb]; exact e, fun v z => by rw [dd] at z; cases z⟩
  keep := fun i h h' q k => by
    obtain ⟨oi, e, r⟩ := q
    exact ⟨oi, k it List.mem_cons_self oi e, r⟩
  item := by
    intro X hP hw hK hc i pins s σ H E I hf q hg
    subst hP hw hK
    obtain ⟨hd, hi⟩ := hg
    obtain ⟨f0, f1, f2, f3, f4, f5⟩ := hf it List.mem_cons_self
    obtain ⟨ns, hgd, hx, es', ep', hdt, hsz, ent⟩ := frzV I hd
    obtain ⟨rfl, rfl⟩ := dict_ep hod hdt
    obtain ⟨⟨kk, v⟩, hkv⟩ : ∃ p, kvs[i]? = some p := ⟨kvs[i], List.getElem?_eq_getElem hi⟩
    obtain ⟨en, hen, hr⟩ := ent i kk v hkv
    refine wk_nextVal q hgd hdt hsz hen fun g q' sb => ?_
    have I1 : Inv X pins σ H { s with heap := g } := I.turned (t' := s.toks) (fun b ob hb e => (sb.2 b hb).trans e) f0 f1 f3 f4 f5
    obtain ⟨oi, e, c, dd⟩ := id q'
    exact ⟨en.val, rfl, go_of (s := { s with heap := g }) e c dd (by decide) ⟨v, H, I1, hr, ⟨rfl, kk, hkv⟩, q', fun b hb => (hf b hb).1⟩⟩
  done := by
    intro X hP hw hK hc i pins s σ H E I hf q hg
    subst hP hw hK
    obtain ⟨hd, hi⟩ := hg
    obtain ⟨f0, f1, f2, f3, f4, f5⟩ := hf it List.mem_cons_self
    obtain ⟨ns, hgd, hx, es', ep', hdt, hsz, ent⟩ := frzV I hd
    obtain ⟨rfl, rfl⟩ := dict_ep hod hdt
    exact wk_endVal (I.ok.hd hc) q hgd hdt hsz hi fun g eb => ⟨rfl, I.turned (t' := s.toks) (fun b ob hb e => eb b ob hb e) f0 f1 f3 f4 f5⟩
  self := fun A i s Q E q h => wpAny_pyIter_valiter q h
/-- .. in e.values(), e's value a dict with tuple keys that is locked from then on -/
def iValT (td : TE) : TI := fun σ H R => td σ H fun x H1 => ∃ d kvs, x = .ref d ∧ H1 d = some (.dT kvs) ∧ ∀ o, R (Itvt d o kvs) (upd H1 d (.frz o (.dT kvs)))
theorem pi_valT {X : Cx} {tg e : Expr} {td : TE} {apos cpos : Pos} (he : PE X e td) (hbase : attributeBase e "values" X.env (eval e X.env) = eval e X.env) (hline : (apos.endLine == cpos.line) = true) : PI X tg (.Call (.Attribute e "values" apos) [] [] cpos) (iValT td) := by
  refine ⟨fun pins s σ H R I h => ?_⟩
  refine wpAny_Call_method (T := "dict") (id := "dict.values") hbase rfl hline F.plainAttrs_dict F.slot_dict_values F.type_dict_values (thn (he.run pins s σ H _ I h) fun u s1 q0 => ?_)
  obtain ⟨x, H0, I0, rx, d, kvs, ex, hd0, q'⟩ := q0
  obtain ⟨o, I1⟩ := I0.lock hd0 True.intro
  have q := q' o
  have hd : upd H0 d (.frz o (.dT kvs)) d = some (.frz o (.dT kvs)) := upd_same
  generalize upd H0 d (.frz o (.dT kvs)) = H1 at I1 q hd
  subst ex
  cases rx
  obtain ⟨ns, hgd, hx, es, ep, hdt, hsz, ent⟩ := frzV I1 hd
  refine ⟨⟨o, hgd, hx.1⟩, fun a e => ⟨o, by cases e; exact hgd, hx.2.1⟩, ?_⟩
  have I2 : Inv X pins σ H1 { s1 with heap := s1.heap.push { cls := .type "dict_values", data := .fields #[.ref d] } } := I1.kept (t' := s1.toks) fun b ob z => Heap.get?_push_of_some _ z
  have fin : wpAny (model X.prog X.w) X.A (pyIter (.ref s1.heap.objs.size)) (PIE X pins σ tg R) X.xe { s1 with heap := s1.heap.push { cls := .type "dict_values", data := .fields #[.ref d] } } := by
    refine wk_valuesIter (d := d) ⟨_, Heap.get?_push_size _ rfl, rfl, rfl⟩ (Heap.get?_push_of_some _ hgd) hdt (pi_one (tk := s1.toks) I2 _ (turn_valT _ hdt) ⟨_, Heap.get?_push_size _ rfl, rfl, ?_⟩ q)
    rw [hsz] <;> rfl
  show wpAny _ _ (callWith cpos (.builtin "dict.values") [.ref d] [] []) _ X.xe s1
  exact method_meetsIn F.slot_dict_values F.entry_dict_values rfl (PySem.evalArgs_none ⟨rfl, ⟨o, hgd, hx.1⟩, F.args_dict_values_1 _, _, wk_valuesMeets d o ns, ⟨hgd, hx⟩, fin⟩)
end L2
/-! WKDcT -/
set_option Elab.async false
set_option linter.all false
set_option maxRecDepth 100000
set_option maxHeartbeats 1000000
/-! y = {k: v for t in it}, the keys tuples -/
namespace L2
open PySem PySem.Spec PyProof.Rows
theorem wk_dictSetT {X : Cx} {pins : List (Addr × Obj)} {σ : St} {H : Hp} {s : Shared} {Er : Value → Shared → Prop} {D b : Addr} {kvs : List (List Key × V)} {k : List Key} {v : V} {r : Value} {Q : Unit → Shared → Prop} (hu : X.A.units + 1 < cLine) (I : Inv X pins σ H s) (hD : H D = some (.dT kvs)) (hb : H b = some (.tup (k.map kV))) (hz : kvs.length < sizeLine) (rv : RelV v r)
    (h : ∀ s', Inv X pins σ (upd H D (.dT (putK kvs k v))) s' → Q () s') : wpAny (model X.prog X.w) X.A (dictSet D (.ref b) r) Q Er s := by
  obtain ⟨z, hd, xs, rel, dd⟩ := dt_of I.hok hD
  have hl := length_putK kvs k v
  refine wpAny_dictSet_heap (hsz := by rw [← Paired.length rel]; exact z) (show X.A.units < cLine by omega) (key_of I.hok hb) dd fun g dd' sb => h _ ?_
  obtain ⟨o, es, ep, g1, g2, g3, g4, _, g5⟩ := dd'
  refine d_write I (by rw [hD]; exact True.intro) sb ⟨o, g1⟩ ⟨by omega, hd, _, KT.keeps (rel.put k hb rv) fun c ys ec => ?_, o, es, ep, g1, g2, g3, g4, g5⟩
  rw [upd_ne (ne_of ec hD fun w => nomatch w)]
  exact ec
def tDcT (wi : TI) (g : TG) (tk tv : TE) (vs : List Nat) : TE := fun σ H Q => wi σ H fun J H1 => ∀ D, H1 D = none → ∃ W : Nat → Nat → Hp → Prop, (∃ m, W 0 m (upd H1 D (.dT []))) ∧ ∀ i m H, W i m H →
  (J.stop i H ∧ Q (.ref D) H) ∨ (J.go i H ∧ ∃ Nx : Hp → Prop, (∀ H', Nx H' → ∃ m', m' < m ∧ W (i + 1) m' H') ∧ ∀ x H', J.yld i H x H' → g x (wipe σ vs) H' fun σ2 H2 => wipe σ2 vs = wipe σ vs ∧ tk σ2 H2 fun y H4 => tv σ2 H4 fun z H5 => ∃ kvs k b, y = .ref b ∧ H5 b = some (.tup (k.map kV)) ∧ H5 D = some (.dT kvs) ∧ kvs.length < sizeLine ∧ Nx (upd H5 D (.dT (putK kvs k z))))
section
variable {X : Cx}
theorem dcT_core {pins : List (Addr × Obj)} {s : Shared} {σ : St} {H : Hp} {Q : VK} {kx vx tg iter : Expr} {scope : Scope} {own : List (Str × Nat)} {pos pos' : Pos} {wi : TI} {g : TG} {tk tv : TE} {use : Option (Value → Sem Unit)} {Qf : Value → Shared → Prop} (hu : X.A.units + 1 < cLine)
    (hc : X.calm = true) (hN : X.N.Nodup) (I : Inv X pins σ H s) (hi : PI X tg iter wi) (ok : BlkOk X.N X.env.scope scope own)
    (hg : ∀ (s : Shared) (H : Hp) (C : Addr) (cl : List (Str × Addr)) (fp : List Addr), PG (X.blk s H scope (compEnvC scope cl C X.env) fp) tg g)
    (hk : ∀ (s : Shared) (H : Hp) (C : Addr) (cl : List (Str × Addr)) (fp : List Addr), PE (X.blk s H scope (compEnvC scope cl C X.env) fp) kx tk)
    (he : ∀ (s : Shared) (H : Hp) (C : Addr) (cl : List (Str × Addr)) (fp : List Addr), PE (X.blk s H scope (compEnvC scope cl C X.env) fp) vx tv) (hs : ∀ x, foldedSetIterable iter X.env x = pure x) (h : tDcT wi g tk tv (own.map (·.2)) σ H Q)
    (back : ∀ D C s' m H', Inv X pins σ H' s' → Q (.ref D) H' → s'.heap.Ns C m → FpOk X pins H' C → compPost (model X.prog X.w) X.A X.xe use Qf (.ref D) C (.ok .next) s') :
    wpAny (model X.prog X.w) X.A (comprehension (.DictComp kx vx [⟨tg, iter, [], 0⟩] scope pos) scope X.env pos' newDict false (eval iter X.env) use) Qf X.xe s := by
  have cellsOf : ∀ y ∈ scope.names, y.2 = .free → ∃ c, X.env.cells.lookup y.1 = some c := fun y hy e => (ok.free y hy e).elim (fun w => I.ok.has _ (.inl w)) fun w => I.ok.has _ (.inr w)
  refine wpAny_comprehension_free (use := use) rfl hs (closure_ok cellsOf) ok.kind (fun y hy e => by rw [ok.uniq y hy, e]) (thn (hi.run pins s σ H _ I h) fun xv s1 hx => thn hx fun itv s2 h2 => ?_)
  obtain ⟨it, fp, tn, J, H2, e, I2, T, st2, f2, q⟩ := h2
  subst e
  refine wpAny_newObj_type (newEnv_comp ?_)
  generalize hD : s2.heap.objs.size = D
  have freeD : H2 D = none := I2.hok.fresh (Nat.le_of_eq hD)
  obtain ⟨W, ⟨m0, w0⟩, turn⟩ := q D freeD
  generalize hs3 : ({ s2 with heap := s2.heap.push { cls := .type "dict", data := .dict #[] } } : Shared) = s3
  have heap3 : s3.heap = s2.heap.push { cls := .type "dict", data := .dict #[] } := by rw [← hs3]
  have I3 : Inv X pins σ (upd H2 D (.dT [])) s3 := by
    rw [← hs3]
    refine I2.laid (t' := s2.toks) (fun b o w => Heap.get?_push_of_some _ w) (Nat.le_of_eq hD) ?_
    rw [← hD]
    exact dt_empty s2.heap I2.big
  have low : ∀ b ∈ fp, b < s2.heap.objs.size := fun b hb => by
    obtain ⟨o, w, _⟩ := T.obj _ _ st2 b hb
    exact Heap.lt_size w
  have f3 : ∀ b ∈ fp, FpOk X pins (upd H2 D (.dT [])) b ∧ b < s3.heap.objs.size := fun b hb => by
    have lt := low b hb
    refine ⟨⟨?_, (f2 b hb).2⟩, by rw [heap3, Heap.size_push]; exact Nat.lt_succ_of_lt lt⟩
    rw [upd_ne (by rw [← hD]; exact Nat.ne_of_lt lt)]
    exact (f2 b hb).1
  have st3 : tn 0 s3.heap := T.keep _ _ _ st2 fun b _ o w => by rw [heap3]; exact Heap.get?_push_of_some _ w
  have I4 := block_start I3 ok hN f3
  have pg := hg s3 (upd H2 D (.dT [])) s3.heap.objs.size (cellsFrom (s3.heap.objs.size + 1) scope.names (cloFrom X.env.cells scope.names [])) fp
  have pk := hk s3 (upd H2 D (.dT [])) s3.heap.objs.size (cellsFrom (s3.heap.objs.size + 1) scope.names (cloFrom X.env.cells scope.names [])) fp
  have pv := he s3 (upd H2 D (.dT [])) s3.heap.objs.size (cellsFrom (s3.heap.objs.size + 1) scope.names (cloFrom X.env.cells scope.names [])) fp
  show codeAny _ _ (.compStart (.DictComp kx vx [⟨tg, iter, [], 0⟩] scope pos) 0 (.ref it) (.ref D) (compEnvC scope (cellsFrom (s3.heap.objs.size + 1) scope.names (cloFrom X.env.cells scope.names [])) s3.heap.objs.size X.env)) (compPost (model X.prog X.w) X.A X.xe use Qf (.ref D) s3.heap.objs.size) { s3 with heap := pushCells (s3.heap.push { cls := .type "dict", data := .dict #[] }) scope.names }
  have none3 : ∀ b ∈ fp, (upd H2 D (.dT [])) b = none := fun b hb => (f3 b hb).1.1
  generalize hce : compEnvC scope (cellsFrom (s3.heap.objs.size + 1) scope.names (cloFrom X.env.cells scope.names [])) s3.heap.objs.size X.env = ce at I4 pg pk pv ⊢
  have loc : ce.locals = s3.heap.objs.size := by rw [← hce]; rfl
  generalize hH3 : upd H2 D (.dT []) = H3 at I3 I4 pg pk pv w0 none3 f3
  generalize hs4 : ({ s3 with heap := pushCells (s3.heap.push { cls := .type "dict", data := .dict #[] }) scope.names } : Shared) = s4 at I4 ⊢
  have st4 : tn 0 s4.heap := T.keep _ _ _ st3 fun b _ o w => by rw [← hs4]; exact pushCells_keeps _ _ _ _ (Heap.get?_push_of_some _ w)
  have own4 : ∀ {σ' : St} {H' : Hp} {s' : Shared}, Inv (X.blk s3 H3 scope ce fp) [] σ' H' s' → (∀ b ∈ fp, H' b = none) → ∀ b ∈ fp, FpOk (X.blk s3 H3 scope ce fp) [] H' b := fun {σ' H' s'} I' n b hb =>
    ⟨n b hb, (I'.ok.exf b hb).1, I'.ok.exfs b hb, .inl hb, (fun x c w => (I'.ok.exf b hb).2 x c w), fun p hp => absurd (show p ∈ ([] : List (Addr × Obj)) ++ [] from hp) (by simp)⟩
  have loop : codeAny (model X.prog X.w) X.A (.compLoop (.DictComp kx vx [⟨tg, iter, [], 0⟩] scope pos) 0 (.ref it) (.ref D) ce) (compPost (model X.prog X.w) X.A X.xe use Qf (.ref D) s3.heap.objs.size) s4 := by
    refine compLoop_anyD (fun n s' => ∃ i H', Inv (X.blk s3 H3 scope ce fp) [] (wipe σ (own.map (·.2))) H' s' ∧ tn i s'.heap ∧ (∀ b ∈ fp, H' b = none) ∧ W i n H') ?_ m0 ⟨0, H3, I4, st4, none3, w0⟩
    rintro n s5 ⟨i, H5, I5, st5, n5, w5⟩
    rcases turn i n H5 w5 with ⟨stop, qq⟩ | ⟨go, Nx, toNx, step⟩
    · refine thnF (T.done (X.blk s3 H3 scope ce fp) rfl rfl rfl hc i [] s5 _ H5 (fun _ _ => False) I5 (own4 I5 n5) st5 stop) fun r s6 w => ?_
      obtain ⟨hr, I6⟩ := w
      subst hr
      have I7 : Inv X pins σ H5 s6 := I3.call' (ch := fp) I6.os I6.base I6.hok I6.bare fun b hb => ⟨(f3 b hb).1.2.2.2.1, (f3 b hb).1.2.1, (f3 b hb).1.2.2.2.2.1, (f3 b hb).1.2.2.2.2.2⟩
      have nC : H5 s3.heap.objs.size = none := by rw [← loc]; exact I6.free
      obtain ⟨m, hn, _⟩ := I6.loc
      have hn : s6.heap.Ns s3.heap.objs.size m := by rw [← loc]; exact hn
      exact back D s3.heap.objs.size s6 m H5 I7 qq hn (I3.fpOk (Nat.le_refl _) nC)
    · refine thnF (T.item (X.blk s3 H3 scope ce fp) rfl rfl rfl hc i [] s5 _ H5 (fun _ _ => False) I5 (own4 I5 n5) st5 go) fun r s6 w => ?_
      obtain ⟨u, hr, h6⟩ := w
      subst hr
      refine thnF h6 fun _ s7 w7 => ?_
      obtain ⟨x, H7, I7, r7, y7, st7, n7⟩ := w7
      have P7 := I7.pinned (own4 I7 n7) (T.obj _ _ st7)
      refine thnF (pg.run _ s7 _ H7 x u _ P7 r7 (step x H7 y7)) fun _ s8 w8 => ?_
      obtain ⟨σ8, H8, I8, hw8, q8⟩ := w8
      have turnEnd : ∀ {s' : Shared} {H' : Hp}, Inv (X.blk s3 H3 scope ce fp) ([] ++ pinsAt fp s7.heap) σ8 H' s' → Nx H' → ∃ m, m < n ∧ ∃ i H', Inv (X.blk s3 H3 scope ce fp) [] (wipe σ (own.map (·.2))) H' s' ∧ tn i s'.heap ∧ (∀ b ∈ fp, H' b = none) ∧ W i m H' := fun {s' H'} I' nx => by
        obtain ⟨m', hm, w'⟩ := toNx H' nx
        have still : ∀ b ∈ fp, ∀ o, s7.heap.get? b = some o → s'.heap.get? b = some o ∧ H' b = none := fun b hb o w => by
          have z := I'.pin (b, o) (List.mem_append_right _ (List.mem_append_right _ (mem_pinsAt hb w)))
          exact ⟨z.1, z.2.1⟩
        refine ⟨m', hm, i + 1, H', (I'.unpinned (pins := [])).weak (by rw [← hw8, wipe_length]) (fun j v w => ?_), T.keep _ _ _ st7 fun b hb o w => (still b hb o w).1, fun b hb => ?_, w'⟩
        · rw [← hw8] at w
          exact (wipe_some w).1
        · obtain ⟨o, w, _⟩ := T.obj _ _ st7 b hb
          exact (still b hb o w).2
      have nt : PTs (X.blk s3 H3 scope ce fp) [] _ := pts_nil
      refine thnF (nt.run _ s8 σ8 H8 (fun b H' => b = true ∧ H' = H8) I8 ⟨rfl, rfl⟩) fun b s9 w9 => ?_
      obtain ⟨H9, I9, rfl, rfl⟩ := w9
      simp only [if_true]
      refine thnF (pk.run _ s9 σ8 H9 _ I9 q8) fun z s10 w10 => ?_
      obtain ⟨yk, H10, I10, r10, q10⟩ := w10
      refine thnF (pv.run _ s10 σ8 H10 _ I10 q10) fun z2 s11 w11 => ?_
      obtain ⟨yv, H11, I11, r11, kvs, k, kb, ek, hkb, hD11, hz11, nx⟩ := w11
      subst ek
      cases r10
      exact wk_dictSetT (X := X.blk s3 H3 scope ce fp) hu I11 hD11 hkb hz11 r11 fun s12 I12 => turnEnd I12 nx
  exact codeAny_compStart_dict loop (T.self X.A 0 _ _ _ st4 loop)
end
end L2
/-! WKDcT2 -/
set_option Elab.async false
set_option linter.all false
set_option maxRecDepth 100000
set_option maxHeartbeats 1000000
/-! y = {numbers: True for numbers in e.values()} -/
namespace L2
open PySem PySem.Spec PyProof.Rows
theorem ps_setDcT {X : Cx} {i : Nat} {y : Str} {py : Pos} {kx vx tg iter : Expr} {scope : Scope} {own : List (Str × Nat)} {pos spos : Pos} {wi : TI} {g : TG} {tk tv : TE} (hu : X.A.units + 1 < cLine) (hc : X.calm = true) (hN : X.N.Nodup) (hy : X.N[i]? = some y) (hyl : X.env.scope.names.lookup y = some .local)
    (hsw : swapsWith (.DictComp kx vx [⟨tg, iter, [], 0⟩] scope pos) (some (.Name y py)) spos.line X.env = pure true) (hi : PI X tg iter wi) (ok : BlkOk X.N X.env.scope scope own)
    (hg : ∀ (s : Shared) (H : Hp) (C : Addr) (cl : List (Str × Addr)) (fp : List Addr), PG (X.blk s H scope (compEnvC scope cl C X.env) fp) tg g)
    (hk : ∀ (s : Shared) (H : Hp) (C : Addr) (cl : List (Str × Addr)) (fp : List Addr), PE (X.blk s H scope (compEnvC scope cl C X.env) fp) kx tk)
    (he : ∀ (s : Shared) (H : Hp) (C : Addr) (cl : List (Str × Addr)) (fp : List Addr), PE (X.blk s H scope (compEnvC scope cl C X.env) fp) vx tv) (hs : ∀ x, foldedSetIterable iter X.env x = pure x) :
    PS X (.Assign [.Name y py] (.DictComp kx vx [⟨tg, iter, [], 0⟩] scope pos) spos) (tAsg (tDcT wi g tk tv (own.map (·.2))) (gName i)) := by
  refine ⟨fun pins s σ H D I h0 => ?_⟩
  have h : tDcT wi g tk tv (own.map (·.2)) σ H (fun x H1 => gName i x σ H1 D.nx) := h0
  rw [exec_Assign_Name_used _ _ _ _ hsw]
  refine wpAny_bind (wpAny_standAt (wpAny_bind ?_))
  show wpAny _ X.A (do let _ ← comprehension (.DictComp kx vx [⟨tg, iter, [], 0⟩] scope pos) scope X.env (firstIterPos [⟨tg, iter, [], 0⟩] pos) newDict false (eval iter X.env) (some (assign (.Name y py) X.env))) _ _ s
  refine wpAny_bind (thn (dcT_core (Qf := fun _ s' => SP X pins D .next s') hu hc hN I hi ok hg hk he hs h fun L C s' m H' I' q hn f => ?_) fun _ s' hq => wpAny_pure (wpAny_pure hq))
  show wpAny _ _ (assign (.Name y py) X.env (.ref L)) _ _ _
  obtain ⟨f0, f1, f2, f3, f4, f5⟩ := f
  refine wpAny_assign_Name (store_ok2 (v := V.ref L) I' hN hy (.inl hyl) rfl (fun s2 I2 w => ?_) (.inr hyl))
  obtain ⟨a, sb, ha⟩ := w
  have nca : C ≠ a := ha.elim (fun z => by rw [z]; exact f1) fun z e => f4 y a z e.symm
  exact ⟨m, hn.sameBut sb nca, fun h3 sb3 => ⟨_, H', I2.turned (t' := s2.toks) (fun b o hb e => (sb3.2 b hb).trans e) f0 f1 f3 f4 f5, q⟩⟩
end L2
namespace WK
open PySem PySem.Spec PyProof.Rows L2
/-- each row once, where it stands first -/
def rowStep (acc : List (List Int)) (l : List Int) : List (List Int) := if l ∈ acc then acc else acc ++ [l]
def rowsOf (r : List (List Int × List Int)) : List (List Int) := (r.map (·.2)).foldl rowStep []
theorem put_tr (acc : List (List Int)) (l : List Int) : putK (dkv (tr acc)) (kI l) (.bl true) = dkv (tr (rowStep acc l)) := by
  unfold rowStep
  by_cases h : l ∈ acc
  · rw [if_pos h]
    unfold putK
    have e : (dkv (tr acc)).any (fun kv => decide (kv.1 = kI l)) = true := by
      rw [List.any_eq_true]
      exact ⟨(kI l, .bl true), List.mem_map.mpr ⟨(l, .bl true), List.mem_map.mpr ⟨l, h, rfl⟩, rfl⟩, by simp⟩
    rw [if_pos e]
    have key : ∀ p ∈ dkv (tr acc), (fun kv : List L2.Key × V => if kv.1 = kI l then (kv.1, V.bl true) else kv) p = p := by
      intro p hp
      obtain ⟨q, hq, rfl⟩ := List.mem_map.mp hp
      obtain ⟨k, _, rfl⟩ := List.mem_map.mp hq
      show (if kI k = kI l then (kI k, V.bl true) else (kI k, V.bl true)) = _
      split <;> rfl
    exact (List.map_congr_left key).trans (List.map_id _)
  · rw [if_neg h, putK_dkv (by rw [tr_keys]; exact h)]
    unfold tr
    rw [List.map_append]
    rfl
theorem row_le (ls acc : List (List Int)) : (ls.foldl rowStep acc).length ≤ acc.length + ls.length := by
  induction ls generalizing acc with
  | nil => exact Nat.le_refl _
  | cons x ls ih =>
    refine Nat.le_trans (ih _) ?_
    have : (rowStep acc x).length ≤ acc.length + 1 := by
      unfold rowStep
      split
      · omega
      · rw [List.length_append]
        exact Nat.le_refl _
    rw [List.length_cons]
    omega
section
variable {X : Cx} {k : Nat} {e kx vx tg : Expr} {env env1 : Nv} {H : Hp} {D : Ends} {pos p' : Pos} {sc scope : Scope} {own : List (Str × Nat)} {rest : List Stmt} {n : Str} {q : Pos} {i : Nat} {nv : Addr → Nv} {r : List (List Int × List Int)} {ap cp : Pos}
theorem swD_of {elt vx : Expr} {n : Str} {gs : List Comprehension} {q : Pos} {ln : Nat} (hs : X.env.scope = sc) (h : swL sc scope n pos q = true) : swapsWith (.DictComp elt vx gs scope pos) (some (.Name n q)) ln X.env = pure true := by
  unfold swL at h
  simp only [Bool.and_eq_true, Bool.not_eq_true', decide_eq_true_eq] at h
  obtain ⟨⟨⟨h1, h2⟩, h3⟩, h4⟩ := h
  have hk : sc.kind = .function := by
    unfold fnKindL at h1
    split at h1
    · assumption
    · cases h1
  have hb : X.env.blockKind = .function := by
    unfold Env.blockKind
    rw [hs, hk]
    rfl
  have k1 : X.env.kindOf n = some .local := by
    unfold Env.kindOf
    rw [hs]
    exact h2
  unfold swapsWith
  simp only [pure_bind, hb, k1, h3, h4]
  simp [Expr.pos, h3]
theorem go_setDcV (A : Hs X k) (hs : X.env.scope = sc) (hE : EvS X e env H (fun v H2 => ∃ f kvs, v = .ref f ∧ H f = none ∧ H2 f = some (.dT (dkv kvs)) ∧ VsN H2 kvs r)) (hz : r.length ≤ 100000) {N : List Str} (hN : env.map (·.1) = N) (ok : ownC sc scope N own = true) (cap : Cap (relS scope sc) (own.map (·.2)) 0 env env1)
    (turn : ∀ key l, (key, l) ∈ r → ∃ env2, Tgt tg (kD l) env1 own env2 ∧ ∀ G X', Hs X' k → X'.env.scope = relS scope sc → EvD X' kx env2 G (kD l) ∧ EvD X' vx env2 G (.bool true))
    (hp : ∀ a, Put env i n (.v (.ref a)) (nv a)) (sw : swL sc scope n pos q = true) (kk : ∀ a H1, H a = none → Ex H H1 → H1 a = some (.dT (dkv (tr (rowsOf r)))) → Go X rest (nv a) H1 D)
    (hbase : attributeBase e "values" X.env (eval e X.env) = eval e X.env := by rfl) (hline : (ap.endLine == cp.line) = true := by rfl) (hf : ∀ x, foldedSetIterable (.Call (.Attribute e "values" ap) [] [] cp) X.env x = pure x := by intro _; rfl) :
    Go X (.Assign [.Name n q] (.DictComp kx vx [⟨tg, .Call (.Attribute e "values" ap) [] [] cp, [], 0⟩] scope pos) p' :: rest) env H D := ⟨fun σ H1 e0 okk => by
  have hl : X.env.scope.names.lookup n = some .local := by
    rw [hs]
    unfold swL at sw
    simp only [Bool.and_eq_true, decide_eq_true_eq] at sw
    exact sw.1.1.2
  have hsw := swD_of (elt := kx) (vx := vx) (gs := [⟨tg, .Call (.Attribute e "values" ap) [] [] cp, [], 0⟩]) (ln := p'.line) hs sw
  subst hs hN
  obtain ⟨ok1, ok2⟩ := Bool.and_eq_true_iff.mp ok
  rw [← okk.names] at ok1
  refine ⟨_, pss_cons (ps_setDcT (g := gB X scope tg) (tk := eB X scope kx) (tv := eB X scope vx) A.units1 A.calm A.nd (by rw [okk.names]; exact (hp 0).name.1) hl hsw (pi_valT pe_w hbase hline) (blkOk_by ok1) pgB peB peB hf) pb_w, ?_⟩
  refine hE.run σ H1 e0 okk _ fun v H2 e2 hv => ?_
  obtain ⟨f, kvs, rfl, nf, hf2, hvs⟩ := hv
  refine ⟨f, dkv kvs, rfl, hf2, fun od => fun Dl hD => ?_⟩
  have hG : lockH H2 f od (.dT (dkv kvs)) f = some (.frz od (.dT (dkv kvs))) := by unfold lockH; exact upd_same
  have exG : Ex H (lockH H2 f od (.dT (dkv kvs))) := fun b o z => by
    unfold lockH
    rw [upd_ne (ne_of_none z nf)]
    exact (e0.trans e2) _ _ z
  have tG : TLe H1 (lockH H2 f od (.dT (dkv kvs))) := e2.t.trans (lock_t hf2 fun xs z => nomatch z)
  have hvG := hvs.mono (lock_t (od := od) hf2 fun xs z => nomatch z)
  have hD' : lockH H2 f od (.dT (dkv kvs)) Dl = none := hD
  change ∃ W : Nat → Nat → Hp → Prop, (∃ m, W 0 m (upd (lockH H2 f od (.dT (dkv kvs))) Dl (.dT []))) ∧ _
  generalize lockH H2 f od (.dT (dkv kvs)) = G at hG exG tG hvG hD'
  have hlen : (dkv kvs).length = r.length := by
    unfold dkv
    rw [List.length_map, hvs.len]
  have nfD : f ≠ Dl := ne_of_none hG hD'
  refine ⟨fun i m H' => m = r.length - i ∧ i ≤ r.length ∧ Ex G H' ∧ H' Dl = some (.dT (dkv (tr ((r.map (·.2)).take i |>.foldl rowStep [])))), ⟨r.length, rfl, Nat.zero_le _, Ex.new hD', upd_same⟩, ?_⟩
  rintro i m H' ⟨rfl, hin, p1, p2⟩
  have hfr := p1 _ _ hG
  by_cases hge : ¬ i < r.length
  · have e : i = r.length := by omega
    subst e
    rw [List.take_of_length_le (by rw [List.length_map]; exact Nat.le_refl _)] at p2
    refine .inl ⟨⟨hfr, by rw [hlen]; exact Nat.le_refl _⟩, ?_⟩
    refine (kk Dl H' ?_ (exG.trans p1) p2).run _ H' (Ex.refl _) ((okk.mono (tG.trans p1.t)).put (hp Dl) rfl (.inl hl))
    cases w : H Dl with
    | none => rfl
    | some o =>
      rw [exG _ _ w] at hD'
      cases hD'
  have hlt : i < r.length := Decidable.not_not.mp hge
  refine .inr ⟨⟨hfr, by rw [hlen]; exact hlt⟩, fun H'' => Ex G H'' ∧ H'' Dl = some (.dT (dkv (tr ((r.map (·.2)).take (i + 1) |>.foldl rowStep [])))), fun H'' w => ⟨_, by omega, rfl, hlt, w.1, w.2⟩, fun x H'' hy => ?_⟩
  obtain ⟨rfl, kk', hkx⟩ := hy
  obtain ⟨p, hp', ep⟩ := dkv_get hkx
  obtain ⟨key, l⟩ := (⟨r[i].1, r[i].2⟩ : List Int × List Int)
  have hri : r[i]? = some (r[i].1, r[i].2) := List.getElem?_eq_getElem hlt
  have hval : ∀ {kvs : List (List Int × V)} {r : List (List Int × List Int)} {i : Nat} {p : List Int × V} {y : List Int × List Int}, VsN G kvs r → kvs[i]? = some p → r[i]? = some y → Rp G p.2 (kD y.2) := by
    intro kvs r i p y w
    induction w generalizing i with
    | nil => intro a; simp at a
    | @cons k v l kvs r h1 h2 ih =>
      intro a b
      cases i with
      | zero =>
        cases Option.some.inj a
        cases Option.some.inj b
        exact h1
      | succ i => exact ih (by simpa using a) (by simpa using b)
  have hrp := hval hvG hp' hri
  have ex : x = p.2 := congrArg Prod.snd ep
  obtain ⟨env2, T, tr'⟩ := turn r[i].1 r[i].2 (List.mem_of_getElem? hri)
  have take1 : ((r.map (·.2)).take (i + 1)).foldl rowStep [] = rowStep (((r.map (·.2)).take i).foldl rowStep []) r[i].2 := by
    rw [List.take_add_one, List.getElem?_map, hri, List.foldl_append]
    rfl
  intro s0 H0 C cl fp
  have nvok : NvOk (X.blk s0 H0 scope (compEnvC scope cl C X.env) fp) H'' (wipe σ (own.map (·.2))) env1 := by
    refine ⟨okk.names.trans cap.names.symm, cap.sl (okk.sl.mono (tG.trans p1.t)) (wipe_length _ _) (fun j hj => ?_), cap.vis⟩
    rw [wipe_get, if_neg]
    rintro ⟨z, _⟩
    rw [Nat.zero_add, List.contains_iff_mem.mpr z] at hj
    cases hj
  refine T.w (X := X.blk s0 H0 scope (compEnvC scope cl C X.env) fp) A.calm A.nd nvok (blk_loc ok2) (by rw [ex]; exact hrp.mono p1.t) fun σ2 ok3 off => ⟨off.wipe, ?_⟩
  intro s1 H5 C1 cl1 fp1
  refine (tr' H'' _ (A.blk s1 H5 cl1 C1 fp1) rfl).1.run σ2 H'' (Ex.refl _) (ok3.to rfl rfl) _ fun y H3 e3 r3 => ?_
  intro s6 H6 C6 cl6 fp6
  refine (tr' H'' _ (A.blk s6 H6 cl6 C6 fp6) rfl).2.run σ2 H3 e3 (NvOk.mono e3.t (ok3.to rfl rfl)) _ fun z H4 e4 r4 => ?_
  obtain ⟨kb, rfl, hkb⟩ := rp_key (r3.mono e4.t)
  cases r4
  have hD4 := e4 _ _ (e3 _ _ p2)
  refine ⟨_, kI r[i].2, kb, rfl, hkb, hD4, ?_, fun b u hb => ?_, ?_⟩
  · unfold dkv tr
    rw [List.length_map, List.length_map]
    have := row_le ((r.map (·.2)).take i) []
    rw [List.length_take, List.length_map, List.length_nil] at this
    have h6 : sizeLine = 16777216 := sizeLine_eq
    omega
  · rw [upd_ne (ne_of_none hb hD')]
    exact e4 _ _ (e3 _ _ (p1 _ _ hb))
  · rw [upd_same, put_tr, take1]⟩
end
end WK
/-! WKClash -/
set_option Elab.async false
set_option linter.all false
set_option maxRecDepth 100000
set_option maxHeartbeats 1000000
/-! clash -/
namespace WK
open PySem PySem.Spec PyProof.Rows L2
section
variable {X : Cx} {k : Nat} {a b : Expr} {env : Nv} {H : Hp} {ds : List PyData} {pos p : Pos} {sc : Scope} {l : Addr} {ns : List Int} {m : Int}
theorem ed_lenL (A : Hs X k) (hs : X.env.scope = sc) (ha : EvR X a env H ds) (hg : glB sc "len" = true := by decide +kernel) (hp : plainE a = true := by rfl) : EvD X (.Call (.Name "len" p) [a] [] pos) env H (.int ds.length) :=
  er_callB call_len_seq A hs hg (A.t.free (by decide +kernel)) boot_len ha (fun l H2 hl Q q => by
    obtain ⟨vs, h1, h2⟩ := hl
    exact ⟨_, _, rfl, .inl (SqL.of h1), q _ H2 (Ex.refl _) (by rw [h2.len]; exact .int _)⟩) (by decide) hp
theorem el_lots (A : Hs X k) (hs : X.env.scope = sc) (ha : EvV X a env H (.ref l)) (hl : Lst H l (zD ns)) (hb : EvD X b env H (.int m)) (pw : ns.Pairwise (· < ·)) (hn : ns.length ≤ 12) (h0 : 0 ≤ m) (h1 : m ≤ 100) (hg : glB sc "lots_of" = true := by decide +kernel) (hk : 1 ≤ k := by decide) (hp : plainE a = true := by rfl) (hp2 : plainE b = true := by rfl) :
    EvL X (.Call (.Name "lots_of" p) [a, b] [] pos) env H ((lotsOf ns m.toNat).map kD) := ⟨fun σ H1 e0 ok Q q => by
  obtain ⟨f, fd, h1', h2, h3, h4⟩ := ((inferInstance : HasCal "lots_of" 1 ["numbers", "many"] SpLots).cal X.prog X.w X.K X.mg A.t).ex
  refine ⟨_, pe_call (CX := CX0) (h4 X.base) (A.room.mono hk) (gl_of hs hg) h1' h2 h3 .nil pass0 (pa_cons pe_w (pa_cons pe_w pa_nil (star_of hp2)) (star_of hp)) (gl_db hg) (star_of hp) (plain_of (by simp [hp2])), ha.run σ H1 e0 ok _ fun H2 e2 => hb.run σ H2 (e0.trans e2) (ok.mono e2.t) _ fun v H3 e3 r3 => ?_⟩
  cases r3
  exact ⟨l, ns, m, rfl, hl.ex ((e0.trans e2).trans e3), pw, hn, h0, h1, fun pp H4 hp4 e4 h4 => q pp H4 ((e2.trans e3).back hp4) ((e2.trans e3).trans e4) h4⟩⟩
end
/-! ### the entries that are no deeds -/
def kindE : Entry → Str
  | .deed d => kind1 d
  | .shut _ => "shut"
  | .seen _ _ _ => "seen"
def restE : Entry → List PyData
  | .deed d => [.int (arg1 d)]
  | .shut l => [.int l]
  | .seen t lo hi => [.int t, .int lo, .int hi]
theorem atI_head (x : PyData) (l : List PyData) : atI (x :: l) 0 = some x := atI_of (by omega) rfl
theorem entryD_eq (e : Entry) : entryD e = .tuple (.str (kindE e) :: restE e) := by
  cases e with
  | deed d => exact deedD_eq d
  | shut l => rfl
  | seen t lo hi => rfl
theorem kind_in (e : Entry) : inD (.str (kindE e)) [.str "shut", .str "seen"] = !e.isDeed := by
  cases e with
  | deed d =>
    cases d
    · show inD (.str "go") [.str "shut", .str "seen"] = false
      decide +kernel
    · show inD (.str "file") [.str "shut", .str "seen"] = false
      decide +kernel
    · show inD (.str "lift") [.str "shut", .str "seen"] = false
      decide +kernel
  | shut l =>
    show inD (.str "shut") [.str "shut", .str "seen"] = true
    decide +kernel
  | seen t lo hi =>
    show inD (.str "seen") [.str "shut", .str "seen"] = true
    decide +kernel
def entT : PyData → Bool
  | .tuple [_, .tuple (x :: _)] => inD x [.str "shut", .str "seen"]
  | _ => false
def fstF : PyData → PyData
  | .tuple [x, _] => x
  | _ => .none
def entriesFrom : Int → List Entry → List Int
  | _, [] => []
  | n, e :: r => if e.isDeed = true then entriesFrom (n + 1) r else n :: entriesFrom (n + 1) r
def entriesOf (r : List Entry) : List Int := entriesFrom 0 r
theorem entT_of (n : Int) (e : Entry) : entT (.tuple [.int n, entryD e]) = !e.isDeed := by
  rw [entryD_eq, ← kind_in]
  rfl
theorem entries_map : ∀ (r : List Entry) (n : Int), ((enumF n (r.map entryD)).filter entT).map fstF = zD (entriesFrom n r)
  | [], _ => rfl
  | e :: r, n => by
    show (List.filter entT (.tuple [.int n, entryD e] :: enumF (n + 1) (r.map entryD))).map fstF = zD (if e.isDeed = true then _ else _)
    rw [List.filter_cons, entT_of]
    cases he : e.isDeed with
    | true =>
      rw [if_neg (by decide), if_pos rfl]
      exact entries_map r (n + 1)
    | false =>
      rw [if_pos (by decide), if_neg (by decide), List.map_cons, entries_map r (n + 1)]
      rfl
theorem entries_ge : ∀ (r : List Entry) (n : Int), ∀ x ∈ entriesFrom n r, n ≤ x
  | [], _, x, h => by cases h
  | e :: r, n, x, h => by
    unfold entriesFrom at h
    split at h
    · have := entries_ge r (n + 1) x h
      omega
    · rcases List.mem_cons.mp h with z | z
      · omega
      · have := entries_ge r (n + 1) x z
        omega
theorem entries_rise : ∀ (r : List Entry) (n : Int), (entriesFrom n r).Pairwise (· < ·)
  | [], _ => .nil
  | e :: r, n => by
    unfold entriesFrom
    split
    · exact entries_rise r (n + 1)
    · refine List.pairwise_cons.mpr ⟨fun x hx => ?_, entries_rise r (n + 1)⟩
      have := entries_ge r (n + 1) x hx
      omega
theorem entries_len : ∀ (r : List Entry) (n : Int), (entriesFrom n r).length ≤ r.length
  | [], _ => Nat.le_refl _
  | e :: r, n => by
    have := entries_len r (n + 1)
    unfold entriesFrom
    split
    · rw [List.length_cons]
      omega
    · rw [List.length_cons, List.length_cons]
      omega
theorem mem_enumE {r : List Entry} {d : PyData} (h : d ∈ enumD (r.map entryD)) : ∃ (i : Nat) (e : Entry), r[i]? = some e ∧ d = .tuple [.int (i : Int), entryD e] := by
  obtain ⟨i, hi⟩ := List.mem_iff_getElem?.mp h
  rw [enumD_get, List.getElem?_map] at hi
  cases e : r[i]? with
  | none =>
    rw [e] at hi
    cases hi
  | some x =>
    rw [e] at hi
    exact ⟨i, x, e, (Option.some.inj hi).symm⟩
/-! ### what hits all rows -/
def hitF (row : List Int) : PyData → PyData
  | .int n => .bool (row.any fun b => b == n)
  | _ => .none
def hits (lot row : List Int) : Bool := lot.any fun n => row.any fun b => b == n
def rowF (lot : List Int) : PyData → PyData := fun d => .bool (hits lot (unK d))
def hitsAll (rows : List (List Int)) (lot : List Int) : Bool := (rows.map (hits lot)).all id
theorem hit_map (lot row : List Int) : ((zD lot).filter fun _ => true).map (hitF row) = (lot.map fun n => row.any fun b => b == n).map PyData.bool := by
  rw [filt_all]
  unfold zD
  rw [List.map_map, List.map_map]
  rfl
theorem row_hits (lot : List Int) (rows : List (List Int)) : (((tr rows).map fun p => kD p.1).filter fun _ => true).map (rowF lot) = (rows.map (hits lot)).map PyData.bool := by
  rw [filt_all, tr_map, List.map_map, List.map_map]
  apply List.map_congr_left
  intro row _
  show PyData.bool (hits lot (unK (kD row))) = _
  rw [unK_kD]
  rfl
def rowsAll (h : Ho) (hall : Int) (r : List Entry) : List (List Int) := rowsOf (agAll h hall r (allKeys h.teeth.toNat))
def clashOf (h : Ho) (hall : Int) (r : List Entry) : Option (List Int) :=
  if [] ∈ rowsAll h hall r then none else (List.range ((entriesOf r).length + 1)).findSome? fun m => (lotsOf (entriesOf r) m).find? (hitsAll (rowsAll h hall r))
theorem findSome_at {α β : Type} {f : α → Option β} : ∀ {l : List α} {i : Nat} {x : α} {y : β}, l[i]? = some x → f x = some y → (∀ (j : Nat) (d : α), j < i → l[j]? = some d → f d = none) → l.findSome? f = some y
  | [], i, x, y, h, _, _ => by simp at h
  | z :: l, 0, x, y, h, hy, _ => by
    have e : z = x := by simpa using h
    rw [List.findSome?_cons, e, hy]
  | z :: l, i + 1, x, y, h, hy, hb => by
    rw [List.findSome?_cons, hb 0 z (by omega) rfl]
    exact findSome_at (i := i) (by simpa using h) hy fun j d hj e => hb (j + 1) d (by omega) (by simpa using e)
theorem rangeD_get {n : Int} {i : Nat} {d : PyData} (h : (rangeD n)[i]? = some d) : i < n.toNat ∧ d = .int (i : Int) := by
  unfold rangeD at h
  rw [List.getElem?_map] at h
  cases hr : (List.range n.toNat)[i]? with
  | none =>
    rw [hr] at h
    cases h
  | some j =>
    rw [hr] at h
    obtain ⟨hj, hj2⟩ := List.getElem?_eq_some_iff.mp hr
    rw [List.getElem_range] at hj2
    subst hj2
    exact ⟨by simpa using hj, (Option.some.inj h).symm⟩
inductive R_clash : List PyData → PyData → Prop
  | mk (h : Ho) (hall : Int) (r : List Entry) (ok : HoOk h) (t2 : h.teeth ≤ 2) (hi : HallOk h hall) (hr : RecOk h hall r) (hl : r.length ≤ 12) : R_clash [hoD h, .int hall, recD r] (optZ (clashOf h hall r))
theorem sc_clash : FnScope ((["house", "hall", "record"] : List Str) ++ (["rows", "entries", "many", "lot", "numbers", "number", "entry", "row"] : List Str)) ["house", "hall", "record"] (defScope (top 90)) := fnScope_by (by decide +kernel)
instance : HasCal "clash" 12 ["house", "hall", "record"] (SpD R_clash) := ⟨fun P w K mg T => by
  refine Cal.pure T (i := 90) (more := (["rows", "entries", "many", "lot", "numbers", "number", "entry", "row"] : List Str)) (List.mem_of_getElem? (i := 44) rfl) (by decide +kernel) sc_clash (fun _ _ _ _ _ _ us hl => match us, hl with | [_, _, _], _ => rfl) (by decide +kernel) (fun ds r h => by cases h <;> rfl) fun X A hs hf ds r h H D hD => ?_
  cases h with
  | mk h hall r ok t2 hi hr hl =>
    have t1 := ok.teeth
    have hal : (agAll h hall r (allKeys h.teeth.toNat)).length ≤ 49 := by
      have h1 := (agAll_keys h hall r (allKeys h.teeth.toNat)).length_le
      rw [List.length_map, allKeys_len] at h1
      have h7 : 7 ^ h.teeth.toNat ≤ 49 := by
        have : h.teeth.toNat = 1 ∨ h.teeth.toNat = 2 := by omega
        rcases this with e | e <;> rw [e] <;> decide
      exact Nat.le_trans h1 h7
    have hrl : (rowsAll h hall r).length ≤ 49 := by
      have := row_le ((agAll h hall r (allKeys h.teeth.toNat)).map (·.2)) []
      rw [List.length_map, List.length_nil] at this
      unfold rowsAll rowsOf
      omega
    have hen12 : (entriesOf r).length ≤ 12 := Nat.le_trans (entries_len r 0) hl
    have hpw : (entriesOf r).Pairwise (· < ·) := entries_rise r 0
    simp only [nvOf, unM]
    refine go_expr (ed_call A hs (ea_cons (ed_var .here hs (by decide +kernel)) (ea_cons (ed_var (.next (.here)) hs (by decide +kernel)) (ea_cons (ed_var (.next (.next (.here))) hs (by decide +kernel)) ea_nil))) (by constructor <;> first | assumption | rfl | omega)) ?_
    refine go_setDcV (N := ["house", "hall", "record", "rows", "entries", "many", "lot", "numbers", "number", "entry", "row"]) (own := [("numbers", 7)]) (r := agAll h hall r (allKeys h.teeth.toNat)) A hs (es_all A hs (ea_cons (ed_var .here hs (by decide +kernel)) (ea_cons (ed_var (.next (.here)) hs (by decide +kernel)) (ea_cons (ed_var (.next (.next (.here))) hs (by decide +kernel)) ea_nil))) (R_all_against.mk h hall r ok (rec_each hr) hl)) (by omega) rfl (by decide +kernel) (.drop (.drop (.drop (.drop (.drop (.drop (.drop (.drop (.drop (.drop (.drop .nil))))))))))) (fun key l hkl => ⟨_, .name (.next (.next (.next (.next (.next (.next (.next (.here)))))))), fun G X A hs => ⟨ed_var (.next (.next (.next (.next (.next (.next (.next (.here)))))))) hs (by decide +kernel), ed_bl⟩⟩) (fun _ => (.next (.next (.next (.here))))) (by decide +kernel) fun rw_ H1 n1 e1 hro => ?_
    have hroR : Rd H1 rw_ (.dT (dkv (tr (rowsAll h hall r)))) := .inl hro
    refine go_when ((et_din (key := []) A (ed_tup ea_nil) (dc_var (ev_var (.next (.next (.next (.here)))) hs (by decide +kernel)) hroR)).is tr_has) (fun ht => ?_) fun ht => ?_
    · exact go_outX ed_non (by unfold clashOf; rw [if_pos (of_decide_eq_true ht)]; rfl) hD e1
    have hno : [] ∉ rowsAll h hall r := of_decide_eq_false ht
    refine (go_setLc (N := ["house", "hall", "record", "rows", "entries", "many", "lot", "numbers", "number", "entry", "row"]) (own := [("number", 8), ("entry", 9)]) entT fstF A hs (ei_enum A hs (by decide +kernel) (ed_var (.next (.next (.here))) hs (by decide +kernel))) (by rw [enumD_len, List.length_map]; omega) rfl (by decide +kernel) (.drop (.drop (.drop (.drop (.drop (.drop (.drop (.drop (.drop (.drop (.drop .nil))))))))))) (fun d hd => by
      obtain ⟨i, e, hie, rfl⟩ := mem_enumE hd
      exact ⟨_, (.tup (.cons (.name (.next (.next (.next (.next (.next (.next (.next (.next (.here)))))))))) (.cons (.name (.next (.next (.next (.next (.next (.next (.next (.next (.next (.here))))))))))) .nil))), fun X A hs => ⟨(ts_one ((et_in (ed_ix ((ed_var (.next (.next (.next (.next (.next (.next (.next (.next (.next (.here)))))))))) hs (by decide +kernel)).is (entryD_eq e)) ed_int (atI_head _ _)) (ed_tup (ea_cons (ed_gstr (i := "shut") A hs (by decide +kernel) (by decide +kernel)) (ea_cons (ed_gstr (i := "seen") A hs (by decide +kernel) (by decide +kernel)) ea_nil))) rfl rfl).is (by rw [kind_in, entT_of]))), fun h_3 => (ed_var (.next (.next (.next (.next (.next (.next (.next (.next (.here))))))))) hs (by decide +kernel))⟩⟩) (fun _ => (.next (.next (.next (.next (.here)))))) (by decide +kernel) fun en H2 n2 e2 hen => ?_)
    have hen : Lst H2 en (zD (entriesOf r)) := by
      have := entries_map r 0
      unfold enumD at hen
      rw [this] at hen
      exact hen
    have hro2 := e2 _ _ hro
    have zl : (zD (entriesOf r)).length = (entriesOf r).length := zD_len _
    refine go_forP (fun i nv => (∃ s1 s2, nv = ([("house", .d (hoD h)), ("hall", .d (.int hall)), ("record", .d (recD r)), ("rows", .v (.ref rw_)), ("entries", .v (.ref en)), ("many", s1), ("lot", s2), ("numbers", .un), ("number", .un), ("entry", .un), ("row", .un)] : Nv)) ∧ ∀ j < i, (lotsOf (entriesOf r) j).find? (hitsAll (rowsAll h hall r)) = none) A (ei_range A hs (by decide +kernel) (ed_add (ed_lenL A hs (EvV.r (ev_var (.next (.next (.next (.next (.here))))) hs (by decide +kernel)) hen)) ed_int) (by omega)) ⟨⟨_, _, rfl⟩, fun j hj => by omega⟩ ?_ ?_
    · rintro i d nv H3 hd ⟨⟨s1, s2, rfl⟩, hb⟩ e3
      obtain ⟨hi, rfl⟩ := rangeD_get hd
      have hi : i ≤ (entriesOf r).length := by omega
      have hen3 := hen.ex e3
      refine ⟨_, _, .name (.next (.next (.next (.next (.next (.here)))))), fun q hq => locN hf hs (by simp at hq; rcases hq with rfl; decide +kernel), ?_⟩
      refine go_forP (fun j nv => (∃ s2, nv = ([("house", .d (hoD h)), ("hall", .d (.int hall)), ("record", .d (recD r)), ("rows", .v (.ref rw_)), ("entries", .v (.ref en)), ("many", .d (.int (i : Int))), ("lot", s2), ("numbers", .un), ("number", .un), ("entry", .un), ("row", .un)] : Nv)) ∧ ∀ (j2 : Nat) (lot : List Int), j2 < j → (lotsOf (entriesOf r) i)[j2]? = some lot → hitsAll (rowsAll h hall r) lot = false) A (ei_new (el_lots A hs (ev_var (.next (.next (.next (.next (.here))))) hs (by decide +kernel)) hen3 (ed_var (.next (.next (.next (.next (.next (.here)))))) hs (by decide +kernel)) hpw hen12 (by omega) (by omega))) ⟨⟨_, rfl⟩, fun j2 lot hj => by omega⟩ ?_ ?_
      · rintro j d nv H4 hd ⟨⟨s2, rfl⟩, hb2⟩ e4
        rw [List.getElem?_map] at hd
        cases hx : (lotsOf (entriesOf r) (i : Int).toNat)[j]? with
        | none =>
          rw [hx] at hd
          cases hd
        | some lot =>
          rw [hx] at hd
          obtain rfl : kD lot = d := by simpa using hd
          rw [Int.toNat_natCast] at hx
          have hll := lots_each _ i lot (List.mem_of_getElem? hx)
          have hro4 := e4 _ _ (e3 _ _ hro2)
          refine ⟨_, _, .name (.next (.next (.next (.next (.next (.next (.here))))))), fun q hq => locN hf hs (by simp at hq; rcases hq with rfl; decide +kernel), ?_⟩
          refine go_when (et_val (ed_all A hs (EvL.r (el_lock hro4 fun od => ?_)) (row_hits lot (rowsAll h hall r)))) (fun ht => ?_) fun ht => ?_
          · exact (el_lc (N := ["house", "hall", "record", "rows", "entries", "many", "lot", "numbers", "number", "entry", "row"]) (own := [("row", 10)]) (fun _ => true) (rowF lot) A hs (ei_keysD (ev_var (.next (.next (.next (.here)))) hs (by decide +kernel)) (by exact upd_same)) (by rw [List.length_map]; unfold tr; rw [List.length_map]; omega) rfl (by decide +kernel) (.drop (.drop (.drop (.drop (.drop (.drop (.keep (by decide +kernel) (by decide) (.drop (.drop (.drop (.drop .nil))))))))))) (fun d hd => by
      obtain ⟨row, hrow, rfl⟩ := mem_trk hd
      exact ⟨_, (.name (.next (.next (.next (.next (.next (.next (.next (.next (.next (.next (.here)))))))))))), fun X A hs => ⟨ts_nil, fun h_4 => ((ed_any A hs (EvL.r (el_lc (N := ["house", "hall", "record", "rows", "entries", "many", "lot", "numbers", "number", "entry", "row"]) (own := [("number", 8)]) (fun _ => true) (hitF row) A hs (ei_tup (ed_var (.next (.next (.next (.next (.next (.next (.here))))))) hs (by decide +kernel))) (by rw [zD_len]; omega) rfl (by decide +kernel) (.drop (.drop (.drop (.drop (.drop (.drop (.drop (.drop (.drop (.drop (.keep (by decide +kernel) (by decide) .nil))))))))))) (fun d hd => by
      obtain ⟨n, hnl, rfl⟩ := mem_zD hd
      exact ⟨_, (.name (.next (.next (.next (.next (.next (.next (.next (.next (.here)))))))))), fun X A hs => ⟨ts_nil, fun h_2 => ((ed_in (ed_var (.next (.next (.next (.next (.next (.next (.next (.next (.here))))))))) hs (by decide +kernel)) (ed_var (.next (.next (.next (.next (.next (.next (.next (.next (.next (.next (.here))))))))))) hs (by decide +kernel)) rfl (flat_zD _)).is (by rw [inD_zD]; rfl))⟩⟩))) (hit_map lot row)).is (by show _ = PyData.bool (hits lot (unK (kD row))); rw [unK_kD, List.any_map]; rfl))⟩⟩))
          · refine go_outX (ed_var (.next (.next (.next (.next (.next (.next (.here))))))) hs (by decide +kernel)) (?_) hD ((e1.trans e2).trans (e3.trans e4))
            unfold clashOf
            rw [if_neg hno, findSome_at (i := i) (x := i) (y := lot) (by rw [List.getElem?_range (by omega)]) (find_some hx ht fun j2 l2 h2 h3 => hb2 j2 l2 h2 h3) fun j2 m2 h2 h3 => ?_]
            · rfl
            · rw [List.getElem?_range (by omega)] at h3
              cases h3
              exact hb _ h2
          · refine go_nil fun σ H5 e5 ok5 => ⟨e5, _, ok5, ⟨_, rfl⟩, fun j2 l2 h2 h3 => ?_⟩
            by_cases e : j2 = j
            · subst e
              rw [hx] at h3
              cases h3
              exact ht
            · exact hb2 j2 l2 (by omega) h3
      · rintro nv H4 e4 ⟨⟨s2, rfl⟩, hb2⟩
        refine go_nil fun σ H5 e5 ok5 => ⟨e4.trans e5, _, ok5, ⟨_, _, rfl⟩, fun j hj => ?_⟩
        by_cases e : j = i
        · subst e
          exact find_none fun j2 l2 h3 => hb2 j2 l2 (by rw [List.length_map, Int.toNat_natCast]; exact (List.getElem?_eq_some_iff.mp h3).1) h3
        · exact hb j (by omega)
    · rintro nv H3 e3 ⟨⟨s1, s2, rfl⟩, hb⟩
      refine go_outX ed_non ?_ hD ((e1.trans e2).trans e3)
      unfold clashOf
      rw [if_neg hno, List.findSome?_eq_none_iff.mpr fun m hm => hb m (by rw [rangeD_len]; have := List.mem_range.mp hm; omega)]
      rfl⟩
end WK
/-! WKWalk0 -/
set_option Elab.async false
set_option linter.all false
set_option maxRecDepth 100000
set_option maxHeartbeats 1000000
/-! Attributes as targets; the walker's class. -/
namespace L2
open PySem PySem.Spec PyProof.Rows
def gFld (K : PySem.W.Frag) (to : TE) (f : Str) : TG := fun v σ H Q => to σ H fun x H1 => ∃ a C dx fs, x = .ref a ∧ H1 a = some (.ins C dx fs) ∧ Cls K C ∧ NoAttr K C f ∧ fs.length < 1000 ∧ Q σ (upd H1 a (.ins C dx (putF f v fs)))
theorem pg_fld {X : Cx} {o : Expr} {f : Str} {pos : Pos} {to : TE} (ho : PE X o to) : PG X (.Attribute o f pos) (gFld X.K to f) := by
  refine ⟨fun pins s σ H v u Q I r h => ?_⟩
  rw [arm_assign_Attribute]
  refine wpAny_bind (wpAny_holding (thn (ho.run pins s σ H _ I h) fun ov s1 q => ?_))
  obtain ⟨x, H1, I1, rx, a, C, dx, fs, ex, ea, c, n, l, q2⟩ := q
  subst ex
  cases rx
  refine wpAny_bind (wpAny_standAt (wpAny_bind (wpAny_holding (setattr_ok I1 ea c n l r fun s2 I2 => ?_))))
  exact wpAny_release ⟨σ, _, I2, q2⟩
end L2
namespace WK
open PySem PySem.Spec PyProof.Rows L2
abbrev WC (K : PySem.W.Frag) : Addr := He.ga K "Walker"
def isCls (x : Str) : He.Fa → Bool
  | .cls y => decide (y = x)
  | _ => false
def isMkr (x : Str) : He.Fa → Bool
  | .mkr y => decide (y = x)
  | _ => false
def isNoat (x f : Str) : He.Fa → Bool
  | .noat y g => decide (y = x) && decide (g = f)
  | _ => false
def isMeth (x m : Str) : He.Fa → Bool
  | .meth y g => decide (y = x) && decide (g = m)
  | _ => false
section
variable {K : PySem.W.Frag} {mg : Str → Option Value}
theorem Tx.cls (T : Tx K mg) : Cls K (WC K) := by
  obtain ⟨f, _, h2, h3⟩ := T.fact (p := isCls "Walker") (by decide +kernel)
  cases f with
  | cls y =>
    have e : y = "Walker" := of_decide_eq_true h2
    subst e
    exact He.cls_ok h3
  | _ => exact Bool.noConfusion h2
theorem Tx.mkr (T : Tx K mg) : Mk K (WC K) (He.ma K (WC K) "__init__") := by
  obtain ⟨f, _, h2, h3⟩ := T.fact (p := isMkr "Walker") (by decide +kernel)
  cases f with
  | mkr y =>
    have e : y = "Walker" := of_decide_eq_true h2
    subst e
    exact He.mkr_ok h3
  | _ => exact Bool.noConfusion h2
theorem Tx.noat (T : Tx K mg) {g : Str} (h : faB (isNoat "Walker" g) = true) : NoAttr K (WC K) g := by
  obtain ⟨f, _, h2, h3⟩ := T.fact h
  cases f with
  | noat y z =>
    obtain ⟨e1, e2⟩ := Bool.and_eq_true_iff.mp h2
    have e1 : y = "Walker" := of_decide_eq_true e1
    have e2 : z = g := of_decide_eq_true e2
    subst e1 e2
    exact He.noat_ok h3
  | _ => exact Bool.noConfusion h2
theorem Tx.meth (T : Tx K mg) {g : Str} (h : faB (isMeth "Walker" g) = true) : Meth K (WC K) g (He.ma K (WC K) g) := by
  obtain ⟨f, _, h2, h3⟩ := T.fact h
  cases f with
  | meth y z =>
    obtain ⟨e1, e2⟩ := Bool.and_eq_true_iff.mp h2
    have e1 : y = "Walker" := of_decide_eq_true e1
    have e2 : z = g := of_decide_eq_true e2
    subst e1 e2
    exact He.meth_ok h3
  | _ => exact Bool.noConfusion h2
end
/-- the walker's attributes -/
def wfs (vh vb vs vk : V) (pl : Addr) : List (Str × V) := [("house", vh), ("begin", vb), ("here", vs), ("kept", vk), ("past", .ref pl)]
/-- a walker at x, its past at pl -/
def WkAt (K : PySem.W.Frag) (H : Hp) (x pl : Addr) (h : Ho) (hall : Int) (key : List Int) (n : Nat) : Prop := ∃ dx vh vb vs vk past kept,
  H x = some (.ins (WC K) dx (wfs vh vb vs vk pl)) ∧ Rp H vh (hoD h) ∧ Rp H vs (standD hall key) ∧ Rp H vk (.tuple kept) ∧ kept.length ≤ n ∧ H pl = some (.lst past) ∧ past.length ≤ n
theorem WkAt.ex {K : PySem.W.Frag} {H H' : Hp} {x pl : Addr} {h : Ho} {hall : Int} {key : List Int} {n : Nat} (w : WkAt K H x pl h hall key n) (e : Ex H H') : WkAt K H' x pl h hall key n := by
  obtain ⟨dx, vh, vb, vs, vk, past, kept, h1, h2, h3, h4, h5, h6, h7⟩ := w
  exact ⟨dx, vh, vb, vs, vk, past, kept, e _ _ h1, h2.mono e.t, h3.mono e.t, h4.mono e.t, h5, e _ _ h6, h7⟩
/-- the function at f is fd's -/
def FdAt (K : PySem.W.Frag) (f : Addr) (fd : FuncData) : Prop := ∃ oc od osl, K.lookup f = some ⟨oc, od, .func fd, osl⟩
theorem FdAt.one {K : PySem.W.Frag} {f : Addr} {fd fd2 : FuncData} (a : FdAt K f fd) (b : FdAt K f fd2) : fd = fd2 := by
  obtain ⟨oc, od, osl, e1⟩ := a
  obtain ⟨oc2, od2, osl2, e2⟩ := b
  rw [e1] at e2
  cases e2
  rfl
theorem FunD_at {K : PySem.W.Frag} {x q : Str} {ps : Arguments} {b : List Stmt} {sc : Scope} {f : Addr} {fd : FuncData} (F : FunD K x q ps b sc [] [] f fd) : FdAt K f fd := by
  obtain ⟨oc, od, dV, kV, doc, pm, an, cdv, ct, osl, h1, h2, _⟩ := F.ex
  exact ⟨oc, od, osl, h2⟩
/-- a method keeps its promise -/
class HasMeth (m : Str) (k : outParam Nat) (ps : outParam (List Str)) (sp : PySem.W.Frag → Sp) : Prop where
  meth : ∀ (P : Program) (w : World) (K : PySem.W.Frag) (mg : Str → Option Value), Tx K mg → ∃ fd, Binds K fd ps [] ∧ (∀ base, FnOk P w K mg base CX0 k (He.ma K (WC K) m) fd ps (sp K)) ∧ FdAt K (He.ma K (WC K) m) fd
theorem Meth.mk' {P : Program} {w : World} {K : PySem.W.Frag} {mg : Str → Option Value} {m q : Str} {st : Stmt} {k : Nat} {N ps : List Str} {sp : Sp} (T : Tx K mg) (hd : dM "Walker" m q st ∈ fn) (S : FnScope N ps (defScope st))
    (hb : ∀ (kV doc pm : Value) (an : Option Addr) (cdv ct : Value) (us : List Value), us.length = ps.length → bindArgs (PySem.W.fnOf m q (defArgs st) (defBody st) (defScope st) .none kV doc pm an cdv ct) ⟨us, []⟩ = pure (ps.zip us))
    (len : ∀ vs H Q E, sp vs H Q E → vs.length = ps.length)
    (body : ∀ X : Cx, Hs X k → X.K = K → X.env.scope = defScope st → X.N = N → (∀ y, X.fn y = true) → ∀ vs H Q E, sp vs H Q E → wB X (defBody st) { nx := fun _ H' => Q .non H', rt := Q } (start N vs) H) : ∃ fd, Binds K fd ps [] ∧ (∀ base, FnOk P w K mg base CX0 (k + 1) (He.ma K (WC K) m) fd ps sp) ∧ FdAt K (He.ma K (WC K) m) fd := by
  obtain ⟨fd, F⟩ := T.d.defs hd
  refine ⟨fd, F.bindsN hb, fun base => ?_, FunD_at F⟩
  refine F.ok S len fun cdv A outer s H vs Q E hr hsp => ?_
  have := body ((cxOf CX0 P w K mg base N q (defScope st) (He.fAd K ("Walker", some m)) cdv A outer s H E).nox) ⟨T, hr, rfl, S.nd, rfl⟩ rfl rfl rfl (fun _ => rfl) vs H Q E hsp
  exact ⟨_, PSs.nox pb_w, this⟩
section
variable {X : Cx} {k : Nat} {o e a b c : Expr} {env env' : Nv} {H : Hp} {D : Ends} {d : PyData} {pos p : Pos} {x dx : Addr} {fs : List (Str × V)} {f : Str} {v : V} {sc : Scope} {rest : List Stmt}
theorem ev_fld (A : Hs X k) (ho : EvV X o env H (.ref x)) (hx : H x = some (.ins (WC X.K) dx fs)) (hl : fs.lookup f = some v) (hn : faB (isNoat "Walker" f) = true := by decide +kernel) (hb : attributeBase o f X.env (eval o X.env) = eval o X.env := by rfl) : EvV X (.Attribute o f pos) env H v := ⟨fun σ H1 e0 ok Q q =>
  ⟨_, pe_fld pe_w hb, ho.run σ H1 e0 ok _ fun H2 e2 => ⟨x, WC X.K, dx, fs, v, rfl, (e0.trans e2) _ _ hx, A.t.cls, A.t.noat hn, hl, q H2 e2⟩⟩⟩
theorem ed_fld (A : Hs X k) (ho : EvV X o env H (.ref x)) (hx : H x = some (.ins (WC X.K) dx fs)) (hl : fs.lookup f = some v) (hr : Rp H v d) (hn : faB (isNoat "Walker" f) = true := by decide +kernel) (hb : attributeBase o f X.env (eval o X.env) = eval o X.env := by rfl) : EvD X (.Attribute o f pos) env H d := ⟨fun σ H1 e0 ok Q q =>
  (ev_fld A ho hx hl hn hb).run σ H1 e0 ok Q fun H2 e2 => q v H2 e2 (hr.mono (e0.trans e2).t)⟩
theorem putF_eq (f : Str) (v u : V) (r : List (Str × V)) : putF f v ((f, u) :: r) = (f, v) :: r := if_pos rfl
theorem putF_ne {f g : Str} (v u : V) (r : List (Str × V)) (h : ¬ g = f) : putF f v ((g, u) :: r) = (g, u) :: putF f v r := if_neg h
theorem n1 : ¬ ("house" : Str) = "begin" := by decide +kernel
theorem n2 : ¬ ("house" : Str) = "here" := by decide +kernel
theorem n3 : ¬ ("house" : Str) = "kept" := by decide +kernel
theorem n4 : ¬ ("house" : Str) = "past" := by decide +kernel
theorem n5 : ¬ ("begin" : Str) = "here" := by decide +kernel
theorem n6 : ¬ ("begin" : Str) = "kept" := by decide +kernel
theorem n7 : ¬ ("begin" : Str) = "past" := by decide +kernel
theorem n8 : ¬ ("here" : Str) = "kept" := by decide +kernel
theorem n9 : ¬ ("here" : Str) = "past" := by decide +kernel
theorem n10 : ¬ ("kept" : Str) = "past" := by decide +kernel
theorem put_all (a b c d : V) (l : Addr) : putF "past" (.ref l) (putF "kept" d (putF "here" c (putF "begin" b (putF "house" a [])))) = wfs a b c d l := by
  show putF "past" (.ref l) (putF "kept" d (putF "here" c (putF "begin" b ([("house", a)] : List (Str × V))))) = _
  rw [putF_ne _ _ _ n1]
  show putF "past" (.ref l) (putF "kept" d (putF "here" c ([("house", a), ("begin", b)] : List (Str × V)))) = _
  rw [putF_ne _ _ _ n2, putF_ne _ _ _ n5]
  show putF "past" (.ref l) (putF "kept" d ([("house", a), ("begin", b), ("here", c)] : List (Str × V))) = _
  rw [putF_ne _ _ _ n3, putF_ne _ _ _ n6, putF_ne _ _ _ n8]
  show putF "past" (.ref l) ([("house", a), ("begin", b), ("here", c), ("kept", d)] : List (Str × V)) = _
  rw [putF_ne _ _ _ n4, putF_ne _ _ _ n7, putF_ne _ _ _ n9, putF_ne _ _ _ n10]
  rfl
theorem put_two (a b c d c2 d2 : V) (l : Addr) : putF "kept" d2 (putF "here" c2 (wfs a b c d l)) = wfs a b c2 d2 l := by
  unfold wfs
  rw [putF_ne _ _ _ n2, putF_ne _ _ _ n5, putF_eq, putF_ne _ _ _ n3, putF_ne _ _ _ n6, putF_ne _ _ _ n8, putF_eq]
theorem look_house (a b c d : V) (l : Addr) : (wfs a b c d l).lookup ("house" : Str) = some a := by
  unfold wfs
  rw [List.lookup_cons]
  rfl
theorem look_here (a b c d : V) (l : Addr) : (wfs a b c d l).lookup ("here" : Str) = some c := by
  have e1 : (("here" : Str) == "house") = false := by decide +kernel
  have e2 : (("here" : Str) == "begin") = false := by decide +kernel
  unfold wfs
  rw [List.lookup_cons, e1, List.lookup_cons, e2, List.lookup_cons]
  simp
theorem look_kept (a b c d : V) (l : Addr) : (wfs a b c d l).lookup ("kept" : Str) = some d := by
  have e1 : (("kept" : Str) == "house") = false := by decide +kernel
  have e2 : (("kept" : Str) == "begin") = false := by decide +kernel
  have e3 : (("kept" : Str) == "here") = false := by decide +kernel
  unfold wfs
  rw [List.lookup_cons, e1, List.lookup_cons, e2, List.lookup_cons, e3, List.lookup_cons]
  simp
theorem look_past (a b c d : V) (l : Addr) : (wfs a b c d l).lookup ("past" : Str) = some (.ref l) := by
  have e1 : (("past" : Str) == "house") = false := by decide +kernel
  have e2 : (("past" : Str) == "begin") = false := by decide +kernel
  have e3 : (("past" : Str) == "here") = false := by decide +kernel
  have e4 : (("past" : Str) == "kept") = false := by decide +kernel
  unfold wfs
  rw [List.lookup_cons, e1, List.lookup_cons, e2, List.lookup_cons, e3, List.lookup_cons, e4, List.lookup_cons]
  simp
def notFld (m : Str) : Bool := !(m == "house") && !(m == "begin") && !(m == "here") && !(m == "kept") && !(m == "past")
theorem look_none (a b c d : V) (l : Addr) {m : Str} (h : notFld m = true) : (wfs a b c d l).lookup m = none := by
  unfold notFld at h
  simp only [Bool.and_eq_true, Bool.not_eq_true'] at h
  obtain ⟨⟨⟨⟨h1, h2⟩, h3⟩, h4⟩, h5⟩ := h
  unfold wfs
  rw [List.lookup_cons, h1, List.lookup_cons, h2, List.lookup_cons, h3, List.lookup_cons, h4, List.lookup_cons, h5]
  rfl
theorem putF_len (f : Str) (v : V) : ∀ fs : List (Str × V), (putF f v fs).length ≤ fs.length + 1
  | [] => Nat.le_refl _
  | (g, u) :: r => by
    unfold putF
    split
    · exact Nat.le_succ _
    · exact Nat.succ_le_succ (putF_len f v r)
theorem gfld_step (A : Hs X k) {σ : L2.St} {G : Hp} {Q : L2.St → Hp → Prop} (ho : ∀ H, EvV X o env H (.ref x)) (ok : NvOk X G σ env) (hx : G x = some (.ins (WC X.K) dx fs)) (hl : fs.length < 1000) (hn : faB (isNoat "Walker" f) = true) (q : ∀ G1, ExL x G G1 → G1 x = some (.ins (WC X.K) dx (putF f v fs)) → NvOk X G1 σ env → Q σ G1) : gFld X.K (wE X o) f v σ G Q :=
  (ho G).run σ G (Ex.refl _) ok _ fun G1 g1 => by
    have h1 := g1 _ _ hx
    refine ⟨x, WC X.K, dx, fs, rfl, h1, A.t.cls, A.t.noat hn, hl, q _ (fun b o n z => ?_) upd_same (ok.mono (g1.t.trans (TLe.upd fun xs z => ?_)))⟩
    · rw [upd_ne n]
      exact g1 _ _ z
    · rw [h1] at z
      cases z
/-- self.house, .. = (.., []) -/
theorem go_attr5 {e1 e2 e3 e4 e5 o1 o2 o3 o4 o5 : Expr} {d1 d2 d3 d4 : PyData} {q1 q2 q3 q4 q5 pt pt2 : Pos} {kt k2 : Nat} (A : Hs X k) (a1 : EvD X e1 env H d1) (a2 : EvD X e2 env H d2) (a3 : EvD X e3 env H d3) (a4 : EvD X e4 env H d4) (a5 : EvL X e5 env H []) (i1 : ∀ H, EvV X o1 env H (.ref x)) (i2 : ∀ H, EvV X o2 env H (.ref x)) (i3 : ∀ H, EvV X o3 env H (.ref x)) (i4 : ∀ H, EvV X o4 env H (.ref x)) (i5 : ∀ H, EvV X o5 env H (.ref x))
    (hx : H x = some (.ins (WC X.K) dx [])) (hp : [e1, e2, e3, e4, e5].all plainE = true)
    (q : ∀ v1 v2 v3 v4 l H1, H l = none → ExL x H H1 → H1 x = some (.ins (WC X.K) dx (wfs v1 v2 v3 v4 l)) → Rp H1 v1 d1 → Rp H1 v2 d2 → Rp H1 v3 d3 → Rp H1 v4 d4 → H1 l = some (.lst []) → Go X rest env H1 D)
    (hs : swapsWithSole [.Tuple [.Attribute o1 "house" q1, .Attribute o2 "begin" q2, .Attribute o3 "here" q3, .Attribute o4 "kept" q4, .Attribute o5 "past" q5] kt pt] (.Tuple [e1, e2, e3, e4, e5] k2 pt2) pos.line X.env = pure false := by rfl)
    (hw : swappedStores [.Tuple [.Attribute o1 "house" q1, .Attribute o2 "begin" q2, .Attribute o3 "here" q3, .Attribute o4 "kept" q4, .Attribute o5 "past" q5] kt pt] (.Tuple [e1, e2, e3, e4, e5] k2 pt2) X.env = pure none := by rfl) :
    Go X (.Assign [.Tuple [.Attribute o1 "house" q1, .Attribute o2 "begin" q2, .Attribute o3 "here" q3, .Attribute o4 "kept" q4, .Attribute o5 "past" q5] kt pt] (.Tuple [e1, e2, e3, e4, e5] k2 pt2) pos :: rest) env H D := ⟨fun σ H1 e0 ok => by
  simp only [List.all_cons, List.all_nil, Bool.and_true, Bool.and_eq_true] at hp
  obtain ⟨h1, h2, h3, h4, h5⟩ := hp
  refine ⟨_, pss_cons (ps_asg (pe_tup (pa_cons pe_w (pa_cons pe_w (pa_cons pe_w (pa_cons pe_w (pa_cons pe_w pa_nil (star_of h5)) (star_of h4)) (star_of h3)) (star_of h2)) (star_of h1))) (pg_tup A.calm (pgs_cons (pg_fld pe_w) (pgs_cons (pg_fld pe_w) (pgs_cons (pg_fld pe_w) (pgs_cons (pg_fld pe_w) (pgs_cons (pg_fld pe_w) pgs_nil)))))) hs hw) pb_w, ?_⟩
  refine a1.run σ H1 e0 ok _ fun v1 H2 x2 r1 => a2.run σ H2 (e0.trans x2) (ok.mono x2.t) _ fun v2 H3 x3 r2 => a3.run σ H3 ((e0.trans x2).trans x3) (ok.mono (x2.trans x3).t) _ fun v3 H4 x4 r3 => a4.run σ H4 (((e0.trans x2).trans x3).trans x4) (ok.mono ((x2.trans x3).trans x4).t) _ fun v4 H5 x5 r4 => a5.run σ H5 ((((e0.trans x2).trans x3).trans x4).trans x5) (ok.mono (((x2.trans x3).trans x4).trans x5).t) _ fun l H6 hl x6 r5 => ?_
  refine ⟨by show 5 ≤ sizeLine; decide, fun t ht => ?_⟩
  have xn : Ex H6 (upd H6 t (.tup [v1, v2, v3, v4, .ref l])) := Ex.new ht
  have xa : Ex H1 (upd H6 t (.tup [v1, v2, v3, v4, .ref l])) := ((((x2.trans x3).trans x4).trans x5).trans x6).trans xn
  have okt := ok.mono xa.t
  have hx1 := (e0.trans xa) _ _ hx
  have C := A.t.cls
  refine ⟨t, _, rfl, SqT.of upd_same, rfl, ?_⟩
  generalize hG0 : upd H6 t (.tup [v1, v2, v3, v4, .ref l]) = G0 at xn xa okt hx1
  have hl0 : G0 l = some (.lst []) := by
    obtain ⟨vs, w1, w2⟩ := r5
    cases w2
    exact xn _ _ w1
  have nlx : l ≠ x := by
    rintro rfl
    rw [hl0] at hx1
    cases hx1
  refine ⟨v1, _, rfl, gfld_step A i1 okt hx1 (by show 0 < 1000; decide) (by decide +kernel) fun G1 g1 w1 k1 => ⟨v2, _, rfl, gfld_step A i2 k1 w1 (by show 1 < 1000; decide) (by decide +kernel) fun G2 g2 w2 k2 => ⟨v3, _, rfl, gfld_step A i3 k2 w2 ?_ (by decide +kernel) fun G3 g3 w3 k3 => ⟨v4, _, rfl, gfld_step A i4 k3 w3 ?_ (by decide +kernel) fun G4 g4 w4 k4 => ⟨.ref l, [], rfl, gfld_step A i5 k4 w4 ?_ (by decide +kernel) fun G5 g5 w5 k5 => ⟨rfl, ?_⟩⟩⟩⟩⟩⟩
  · exact Nat.lt_of_le_of_lt (Nat.le_trans (putF_len _ _ _) (Nat.succ_le_succ (putF_len _ _ _))) (by decide)
  · exact Nat.lt_of_le_of_lt (Nat.le_trans (putF_len _ _ _) (Nat.succ_le_succ (Nat.le_trans (putF_len _ _ _) (Nat.succ_le_succ (putF_len _ _ _))))) (by decide)
  · exact Nat.lt_of_le_of_lt (Nat.le_trans (putF_len _ _ _) (Nat.succ_le_succ (Nat.le_trans (putF_len _ _ _) (Nat.succ_le_succ (Nat.le_trans (putF_len _ _ _) (Nat.succ_le_succ (putF_len _ _ _))))))) (by decide)
  have gg : ExL x G0 G5 := (((g1.trans g2).trans g3).trans g4).trans g5
  have tt : TLe G0 G5 := gg.t fun xs z => by
    rw [hx1] at z
    cases z
  have tr := fun {v : V} {d : PyData} {G : Hp} (w : Rp G v d) (e : Ex G H6) => (w.mono (e.trans xn).t).mono tt
  refine (q v1 v2 v3 v4 l G5 ?_ (fun b o n z => gg b o n (xa _ _ (e0 _ _ z))) (by rw [w5, put_all]) (tr r1 (((x3.trans x4).trans x5).trans x6)) (tr r2 ((x4.trans x5).trans x6)) (tr r3 (x5.trans x6)) (tr r4 x6) (gg l _ nlx hl0)).run σ G5 (Ex.refl _) k5
  exact ((((e0.trans x2).trans x3).trans x4).trans x5).back hl⟩
/-- self.here, self.kept = .., .. -/
theorem go_attr2 {e1 e2 o1 o2 : Expr} {d1 d2 : PyData} {q1 q2 pt pt2 : Pos} {kt k2 : Nat} {va vb vc vd : V} {l : Addr} (A : Hs X k) (a1 : EvD X e1 env H d1) (a2 : EvD X e2 env H d2) (i1 : ∀ H, EvV X o1 env H (.ref x)) (i2 : ∀ H, EvV X o2 env H (.ref x)) (hx : H x = some (.ins (WC X.K) dx (wfs va vb vc vd l))) (hp : [e1, e2].all plainE = true)
    (q : ∀ v1 v2 H1, ExL x H H1 → H1 x = some (.ins (WC X.K) dx (wfs va vb v1 v2 l)) → Rp H1 v1 d1 → Rp H1 v2 d2 → Go X rest env H1 D)
    (hs : swapsWithSole [.Tuple [.Attribute o1 "here" q1, .Attribute o2 "kept" q2] kt pt] (.Tuple [e1, e2] k2 pt2) pos.line X.env = pure false := by rfl)
    (hw : swappedStores [.Tuple [.Attribute o1 "here" q1, .Attribute o2 "kept" q2] kt pt] (.Tuple [e1, e2] k2 pt2) X.env = pure none) :
    Go X (.Assign [.Tuple [.Attribute o1 "here" q1, .Attribute o2 "kept" q2] kt pt] (.Tuple [e1, e2] k2 pt2) pos :: rest) env H D := ⟨fun σ H1 e0 ok => by
  simp only [List.all_cons, List.all_nil, Bool.and_true, Bool.and_eq_true] at hp
  obtain ⟨h1, h2⟩ := hp
  refine ⟨_, pss_cons (ps_asg (pe_tup (pa_cons pe_w (pa_cons pe_w pa_nil (star_of h2)) (star_of h1))) (pg_tup A.calm (pgs_cons (pg_fld pe_w) (pgs_cons (pg_fld pe_w) pgs_nil))) hs hw) pb_w, ?_⟩
  refine a1.run σ H1 e0 ok _ fun v1 H2 x2 r1 => a2.run σ H2 (e0.trans x2) (ok.mono x2.t) _ fun v2 H3 x3 r2 => ?_
  refine ⟨by show 2 ≤ sizeLine; decide, fun t ht => ?_⟩
  have xn : Ex H3 (upd H3 t (.tup [v1, v2])) := Ex.new ht
  have xa : Ex H1 (upd H3 t (.tup [v1, v2])) := (x2.trans x3).trans xn
  have okt := ok.mono xa.t
  have hx1 := (e0.trans xa) _ _ hx
  refine ⟨t, _, rfl, SqT.of upd_same, rfl, ?_⟩
  generalize upd H3 t (.tup [v1, v2]) = G0 at xn xa okt hx1
  refine ⟨v1, _, rfl, gfld_step A i1 okt hx1 (by show 5 < 1000; decide) (by decide +kernel) fun G1 g1 w1 k1 => ⟨v2, [], rfl, gfld_step A i2 k1 w1 ?_ (by decide +kernel) fun G2 g2 w2 k2 => ⟨rfl, ?_⟩⟩⟩
  · exact Nat.lt_of_le_of_lt (putF_len _ _ _) (by show 6 < 1000; decide)
  have gg : ExL x G0 G2 := g1.trans g2
  have tt : TLe G0 G2 := gg.t fun xs z => by
    rw [hx1] at z
    cases z
  exact (q v1 v2 G2 (fun b o n z => gg b o n (xa _ _ (e0 _ _ z))) (by rw [w2, put_two]) (((r1.mono x3.t).mono xn.t).mono tt) ((r2.mono xn.t).mono tt)).run σ G2 (Ex.refl _) k2⟩
/-- l.append(e), whatever the list holds -/
theorem go_appV {nm : Expr} {ap cp : Pos} {ws : List V} {l : Addr} (hv : EvV X nm env H (.ref l)) (hl : H l = some (.lst ws)) (hd : EvD X e env H d) (hn : ws.length ≤ 100000) (q : ∀ H' v, ExL l H H' → Rp H' v d → H' l = some (.lst (ws ++ [v])) → Go X rest env H' D) (hp : plainE e = true := by rfl)
    (hbase : attributeBase nm "append" X.env (eval nm X.env) = eval nm X.env := by rfl) (hline : (ap.endLine == cp.line) = true := by rfl) (hs : swapsWith (.Call (.Attribute nm "append" ap) [e] [] cp) none pos.line X.env = pure false := by rfl) :
    Go X (.Expr (.Call (.Attribute nm "append" ap) [e] [] cp) pos :: rest) env H D := ⟨fun σ H1 e0 ok => by
  refine ⟨_, pss_cons (ps_expr (pe_bm PySem.F.plainAttrs_list PySem.F.slot_list_append PySem.F.type_list_append mt_append pe_w (pa_cons pe_w pa_nil (star_of hp)) hbase (by cases e <;> first
    | rfl
    | cases hp) hline (star_of hp) (plain_of rfl)) hs) pb_w, hv.run σ H1 e0 ok _ fun H2 e2 => ?_⟩
  have h2 := (e0.trans e2) _ _ hl
  refine ⟨.inl ⟨rfl, ws, SqL.of h2⟩, hd.run σ H2 (e0.trans e2) (ok.mono e2.t) _ fun v H3 e3 r3 => ?_⟩
  have h3 := e3 _ _ h2
  have t : TLe H3 (upd H3 l (.lst (ws ++ [v]))) := TLe.upd fun xs z => by
    rw [h3] at z
    cases z
  refine ⟨l, ws, v, rfl, rfl, h3, Nat.lt_of_le_of_lt hn (by decide), ?_⟩
  refine (q _ v (fun b o hb z => ?_) (r3.mono t) upd_same).run σ _ (Ex.refl _) (((ok.mono e2.t).mono e3.t).mono t)
  rw [upd_ne hb]
  exact ((e0.trans e2).trans e3) _ _ z⟩
end
end WK
/-! WKPen -/
set_option Elab.async false
set_option linter.all false
set_option maxRecDepth 100000
set_option maxHeartbeats 1000000
/-! Readings that change the objects at M and nothing else. -/
namespace WK
open PySem PySem.Spec PyProof.Rows L2
structure Kp (M : List Addr) (H H' : Hp) : Prop where
  t : TLe H H'
  k : ∀ b o, b ∉ M → H b = some o → H' b = some o
  s : ∀ b, H' b = none → H b = none
theorem Kp.refl {M : List Addr} (H : Hp) : Kp M H H := ⟨.refl H, fun _ _ _ h => h, fun _ h => h⟩
theorem Ex.kp {M : List Addr} {H H' : Hp} (e : Ex H H') : Kp M H H' := ⟨e.t, fun b o _ h => e b o h, fun _ h => e.back h⟩
theorem Kp.trans {M : List Addr} {H H1 H2 : Hp} (a : Kp M H H1) (b : Kp M H1 H2) : Kp M H H2 := ⟨a.1.trans b.1, fun x o n h => b.2 x o n (a.2 x o n h), fun x h => a.3 x (b.3 x h)⟩
theorem Kp.sub {M M' : List Addr} {H H' : Hp} (a : Kp M H H') (h : ∀ b ∈ M, b ∈ M') : Kp M' H H' := ⟨a.1, fun b o n => a.2 b o fun z => n (h b z), a.3⟩
theorem Kp.ex {M : List Addr} {H H' : Hp} (a : Kp M H H') (h : ∀ b ∈ M, H b = none) : Ex H H' := fun b o e => a.2 b o (fun z => by rw [h b z] at e; cases e) e
/-- M's objects stand -/
def Has1 (M : List Addr) (H : Hp) : Prop := ∀ b ∈ M, H b ≠ none
theorem Kp.has {M N : List Addr} {H H' : Hp} (a : Kp M H H') (h : Has1 N H) : Has1 N H' := fun b hb z => h b hb (a.3 b z)
theorem Has1.fresh {M : List Addr} {H : Hp} {p : Addr} (h : Has1 M H) (hp : H p = none) : p ∉ M := fun z => h p z hp
theorem Kp.lst {M : List Addr} {H H' : Hp} {l : Addr} {ds : List PyData} (a : Kp M H H') (h : Lst H l ds) (n : l ∉ M) : Lst H' l ds := by
  obtain ⟨vs, h1, h2⟩ := h
  exact ⟨vs, a.2 _ _ n h1, h2.mono a.1⟩
structure EvM (X : Cx) (M : List Addr) (e : Expr) (env : Nv) (H : Hp) (J : PyData → Hp → Prop) : Prop where
  run : ∀ σ H1, Ex H H1 → NvOk X H1 σ env → ∀ Q : VK, (∀ v d H2, Kp M H1 H2 → J d H2 → Rp H2 v d → Q v H2) → wE X e σ H1 Q
structure AvM (X : Cx) (M : List Addr) (es : List Expr) (env : Nv) (H : Hp) (J : List PyData → Hp → Prop) : Prop where
  run : ∀ σ H1, Ex H H1 → NvOk X H1 σ env → ∀ Q : List V → Hp → Prop, (∀ vs ds H2, Kp M H1 H2 → J ds H2 → RpA H2 vs ds → Q vs H2) → wA X es σ H1 Q
structure TvM (X : Cx) (M : List Addr) (e : Expr) (env : Nv) (H : Hp) (J : Bool → Hp → Prop) : Prop where
  run : ∀ σ H1, Ex H H1 → NvOk X H1 σ env → ∀ Q : Bool → Hp → Prop, (∀ b H2, Kp M H1 H2 → J b H2 → Q b H2) → wT X e σ H1 Q
/-- it gives a list that is new -/
structure LvM (X : Cx) (M : List Addr) (e : Expr) (env : Nv) (H : Hp) (J : List PyData → Hp → Prop) : Prop where
  run : ∀ σ H1, Ex H H1 → NvOk X H1 σ env → ∀ Q : VK, (∀ p ds H2, H1 p = none → Kp M H1 H2 → J ds H2 → Lst H2 p ds → Q (.ref p) H2) → wE X e σ H1 Q
section
variable {X : Cx} {k : Nat} {M : List Addr} {e a b c : Expr} {es : List Expr} {env env' : Nv} {H : Hp} {D : Ends} {d x y : PyData} {ds items : List PyData} {pos p : Pos} {sc : Scope} {rest body : List Stmt} {J : PyData → Hp → Prop} {JA : List PyData → Hp → Prop} {JB : Bool → Hp → Prop}
theorem em_d (h : EvD X e env H d) (q : ∀ H1, Ex H H1 → J d H1) : EvM X M e env H J := ⟨fun σ H1 e0 ok Q k => h.run σ H1 e0 ok _ fun v H2 e2 r => k v d H2 e2.kp (q H2 (e0.trans e2)) r⟩
theorem tm_t {t : Bool} (h : EvT X e env H t) (q : ∀ H1, Ex H H1 → JB t H1) : TvM X M e env H JB := ⟨fun σ H1 e0 ok Q k => h.run σ H1 e0 ok _ fun H2 e2 => k t H2 e2.kp (q H2 (e0.trans e2))⟩
theorem am_a (h : EvA X es env H ds) (q : ∀ H1, Ex H H1 → JA ds H1) : AvM X M es env H JA := ⟨fun σ H1 e0 ok Q k => h.run σ H1 e0 ok _ fun v H2 e2 r => k v ds H2 e2.kp (q H2 (e0.trans e2)) r⟩
theorem am_nil (q : ∀ H1, Ex H H1 → JA [] H1) : AvM X M [] env H JA := am_a ea_nil q
theorem am_cons (ha : EvM X M e env H fun d H1 => Kp M H H1 → AvM X M es env H1 fun ds H2 => Kp M H1 H2 → JA (d :: ds) H2) (hp : plainE e = true := by rfl) : AvM X M (e :: es) env H JA := ⟨fun σ H1 e0 ok Q k =>
  ⟨_, pa_cons pe_w pa_w (star_of hp), ha.run σ H1 e0 ok _ fun v d H2 t2 jj r => (jj (e0.kp.trans t2)).run σ H2 (Ex.refl _) (ok.mono t2.1) _ fun vs ds H3 t3 j3 r3 => k _ _ H3 (t2.trans t3) (j3 t3) (.cons (r.mono t3.1) r3)⟩⟩
theorem em_tup {j : Nat} (h : AvM X M es env H fun ds H1 => Kp M H H1 → ds.length ≤ 1000 ∧ ∀ H2, Ex H1 H2 → J (.tuple ds) H2) : EvM X M (.Tuple es j pos) env H J := ⟨fun σ H1 e0 ok Q k =>
  ⟨_, pe_tup pa_w, h.run σ H1 e0 ok _ fun vs ds H2 t2 j r => by
    obtain ⟨j1, j2⟩ := j (e0.kp.trans t2)
    refine ⟨by rw [r.len]; exact Nat.le_trans j1 (by decide), fun pp hp => k _ _ _ (t2.trans (Ex.new hp).kp) (j2 _ (Ex.new hp)) (.tup upd_same (r.mono (Ex.new hp).t))⟩⟩⟩
theorem em_opI {op : Operator} {C : Int → Int → Prop} {g : Int → Int → Int} (ho : OpR X (binaryOp op) (rI C fun i j => .int (g i j))) (h : EvM X M a env H fun d H1 => Kp M H H1 → EvM X M b env H1 fun d2 H2 => Kp M H1 H2 → ∃ i j, d = .int i ∧ d2 = .int j ∧ C i j ∧ J (.int (g i j)) H2) : EvM X M (.BinOp a op b pos) env H J := ⟨fun σ H1 e0 ok Q q =>
  ⟨_, pe_op ho pe_w pe_w, h.run σ H1 e0 ok _ fun v d H2 t2 jj r => (jj (e0.kp.trans t2)).run σ H2 (Ex.refl _) (ok.mono t2.1) _ fun u d2 H3 t3 j3 r3 => by
    obtain ⟨i, j, e1, e2, c, q2⟩ := j3 t3
    subst e1 e2
    cases r
    cases r3
    exact ⟨i, j, rfl, rfl, c, q _ _ H3 (t2.trans t3) q2 (.int _)⟩⟩⟩
theorem em_opI0 {op : Operator} {g : Int → Int → Int} (ho : OpR X (binaryOp op) (rI0 fun i j => .int (g i j))) (h : EvM X M a env H fun d H1 => Kp M H H1 → EvM X M b env H1 fun d2 H2 => Kp M H1 H2 → ∃ i j, d = .int i ∧ d2 = .int j ∧ J (.int (g i j)) H2) : EvM X M (.BinOp a op b pos) env H J := ⟨fun σ H1 e0 ok Q q =>
  ⟨_, pe_op ho pe_w pe_w, h.run σ H1 e0 ok _ fun v d H2 t2 jj r => (jj (e0.kp.trans t2)).run σ H2 (Ex.refl _) (ok.mono t2.1) _ fun u d2 H3 t3 j3 r3 => by
    obtain ⟨i, j, e1, e2, q2⟩ := j3 t3
    subst e1 e2
    cases r
    cases r3
    exact ⟨i, j, rfl, rfl, q _ _ H3 (t2.trans t3) q2 (.int _)⟩⟩⟩
theorem em_add (h : EvM X M a env H fun d H1 => Kp M H H1 → EvM X M b env H1 fun d2 H2 => Kp M H1 H2 → ∃ i j, d = .int i ∧ d2 = .int j ∧ J (.int (i + j)) H2) : EvM X M (.BinOp a .Add b pos) env H J := em_opI0 op_add h
theorem em_sub (h : EvM X M a env H fun d H1 => Kp M H H1 → EvM X M b env H1 fun d2 H2 => Kp M H1 H2 → ∃ i j, d = .int i ∧ d2 = .int j ∧ J (.int (i - j)) H2) : EvM X M (.BinOp a .Sub b pos) env H J := em_opI0 op_sub h
/-- a comparison as a test -/
theorem tm_gt (h : EvM X M a env H fun d H1 => Kp M H H1 → EvM X M b env H1 fun d2 H2 => Kp M H1 H2 → ∃ i j, d = .int i ∧ d2 = .int j ∧ JB (decide (j < i)) H2) : TvM X M (.Compare a [.Gt] [b] pos) env H JB := ⟨fun σ H1 e0 ok Q q =>
  ⟨_, pt_cmpR op_gt pe_w pe_w (nomark _), h.run σ H1 e0 ok _ fun v d H2 t2 jj r => (jj (e0.kp.trans t2)).run σ H2 (Ex.refl _) (ok.mono t2.1) _ fun u d2 H3 t3 j3 r3 => by
    obtain ⟨i, j, e1, e2, q2⟩ := j3 t3
    subst e1 e2
    cases r
    cases r3
    exact ⟨i, j, rfl, rfl, decide (j < i), rfl, q _ H3 (t2.trans t3) q2⟩⟩⟩
theorem tm_eq (A : Hs X k) (h : EvM X M a env H fun d H1 => Kp M H H1 → EvM X M b env H1 fun d2 H2 => Kp M H1 H2 → SeqAt.shaped d = true ∧ SeqAt.shaped d2 = true ∧ JB (PyData.eqv d d2) H2) : TvM X M (.Compare a [.Eq] [b] pos) env H JB := ⟨fun σ H1 e0 ok Q q =>
  ⟨_, pt_cmpR (op_eqD A.units) pe_w pe_w (nomark _), h.run σ H1 e0 ok _ fun v d H2 t2 jj r => (jj (e0.kp.trans t2)).run σ H2 (Ex.refl _) (ok.mono t2.1) _ fun u d2 H3 t3 j3 r3 => by
    obtain ⟨s1, s2, q2⟩ := j3 t3
    exact ⟨d, d2, (r.mono t3.1).dp, r3.dp, s1, s2, _, rfl, q _ H3 (t2.trans t3) q2⟩⟩⟩
/-- [.., ..][i] -/
theorem em_ixL {p2 : Pos} (hM : Has1 M H) (h : AvM X M es env H fun ds H1 => Kp M H H1 → ds.length ≤ 1000 ∧ ∀ H2, Ex H1 H2 → EvM X M b env H2 fun d2 H3 => Kp M H2 H3 → ∃ j x, d2 = .int j ∧ atI ds j = some x ∧ J x H3) (hp : PlainIx b := by intro _ _; rfl) : EvM X M (.Subscript (.List es p2) b pos) env H J := ⟨fun σ H1 e0 ok Q q =>
  ⟨_, pe_ix ix_list (pe_lst pa_w) pe_w hp, h.run σ H1 e0 ok _ fun vs ds H2 t2 jj r => by
    obtain ⟨j1, j2⟩ := jj (e0.kp.trans t2)
    refine ⟨by rw [r.len]; exact Nat.le_trans j1 (by decide), fun pp hpp => ?_⟩
    have en := Ex.new (o := .lst vs) hpp
    have npp : pp ∉ M := ((e0.kp.trans t2).has hM).fresh hpp
    refine (j2 _ en).run σ _ (Ex.refl _) (ok.mono (t2.1.trans en.t)) _ fun u d2 H3 t3 j3 r3 => ?_
    obtain ⟨j, x, e1, e2, q2⟩ := j3 t3
    subst e1
    cases r3
    have hl := t3.lst ⟨vs, upd_same, r.mono en.t⟩ npp
    obtain ⟨ws, h1, q1⟩ := hl
    obtain ⟨w', e4, r4⟩ := atI_rp q1 e2
    exact ⟨_, _, j, w', rfl, rfl, SqL.of h1, e4, q _ _ H3 ((t2.trans en.kp).trans t3) q2 r4⟩⟩⟩
/-! ### statements -/
theorem gm_set {i : Nat} {n : Str} {p' : Pos} {nv : PyData → Nv} (A : Hs X k) (h : EvM X M e env H J) (hp : ∀ d, Put env i n (.d d) (nv d)) (hl : LocN X n) (q : ∀ d H1, Kp M H H1 → J d H1 → Go X rest (nv d) H1 D) (hs : swapsWith e (some (.Name n p')) pos.line X.env = pure false := by rfl) :
    Go X (.Assign [.Name n p'] e pos :: rest) env H D := ⟨fun σ H1 e0 ok =>
  ⟨_, pss_cons (ps_set A.nd (by rw [ok.names]; exact (hp .none).name.1) hl.loc pe_w hs hl.fn) pb_w, h.run σ H1 e0 ok _ fun v d H2 t2 j r => (q d H2 (e0.kp.trans t2) j).run _ H2 (Ex.refl _) ((ok.mono t2.1).put (hp d) r hl.vis)⟩⟩
theorem gm_setL {i : Nat} {n : Str} {p' : Pos} {nv : Addr → Nv} (A : Hs X k) (h : LvM X M e env H JA) (hp : ∀ a, Put env i n (.v (.ref a)) (nv a)) (hl : LocN X n) (q : ∀ a ds H1, H a = none → Kp M H H1 → JA ds H1 → Lst H1 a ds → Go X rest (nv a) H1 D)
    (hs : swapsWith e (some (.Name n p')) pos.line X.env = pure false := by rfl) : Go X (.Assign [.Name n p'] e pos :: rest) env H D := ⟨fun σ H1 e0 ok =>
  ⟨_, pss_cons (ps_set A.nd (by rw [ok.names]; exact (hp 0).name.1) hl.loc pe_w hs hl.fn) pb_w, h.run σ H1 e0 ok _ fun v ds H2 hn t2 j l => (q v ds H2 (e0.back hn) (e0.kp.trans t2) j l).run _ H2 (Ex.refl _) ((ok.mono t2.1).put (hp v) rfl hl.vis)⟩⟩
theorem gm_ret (h : EvM X M e env H J) (q : ∀ v d H1, Kp M H H1 → J d H1 → Rp H1 v d → D.rt v H1) : Go X (.Return (some e) p :: rest) env H D := ⟨fun σ H1 e0 ok =>
  ⟨_, pss_cons (ps_ret pe_w) pss_never, h.run σ H1 e0 ok _ fun v d H2 t2 j r => q v d H2 (e0.kp.trans t2) j r⟩⟩
theorem gm_expr (h : EvM X M e env H J) (q : ∀ d H1, Kp M H H1 → J d H1 → Go X rest env H1 D) (hs : swapsWith e none pos.line X.env = pure false := by rfl) : Go X (.Expr e pos :: rest) env H D := ⟨fun σ H1 e0 ok =>
  ⟨_, pss_cons (ps_expr pe_w hs) pb_w, h.run σ H1 e0 ok _ fun v d H2 t2 j _ => (q d H2 (e0.kp.trans t2) j).run σ H2 (Ex.refl _) (ok.mono t2.1)⟩⟩
theorem gm_if {els : List Stmt} (hc : TvM X M c env H JB) (h1 : ∀ H1, Kp M H H1 → JB true H1 → Go X body env H1 { D with nx := wB X rest D }) (h2 : ∀ H1, Kp M H H1 → JB false H1 → Go X els env H1 { D with nx := wB X rest D }) : Go X (.If c body els pos :: rest) env H D := ⟨fun σ H1 e0 ok =>
  ⟨_, pss_cons (ps_if pt_w pb_w pb_w) pb_w, hc.run σ H1 e0 ok _ fun b H2 t2 j => by
    cases b with
    | true => exact (h1 H2 (e0.kp.trans t2) j).run σ H2 (Ex.refl _) (ok.mono t2.1)
    | false => exact (h2 H2 (e0.kp.trans t2) j).run σ H2 (Ex.refl _) (ok.mono t2.1)⟩⟩
theorem gm_when (hc : TvM X M c env H JB) (h1 : ∀ H1, Kp M H H1 → JB true H1 → Go X body env H1 { D with nx := wB X rest D }) (h2 : ∀ H1, Kp M H H1 → JB false H1 → Go X rest env H1 D) : Go X (.If c body [] pos :: rest) env H D :=
  gm_if hc h1 fun H1 k1 j => go_nil fun σ H2 e2 ok => (h2 H1 k1 j).run σ H2 e2 ok
theorem gm_unp {ts : List Expr} {j : Nat} {p' : Pos} (A : Hs X k) (h : EvM X M e env H J) (q : ∀ d H1, Kp M H H1 → J d H1 → ∃ o env', Tgt (.Tuple ts j p') d env o env' ∧ (∀ q ∈ o, LocN X q.1) ∧ Go X rest env' H1 D)
    (hs : swapsWithSole [.Tuple ts j p'] e pos.line X.env = pure false := by rfl) (hw : swappedStores [.Tuple ts j p'] e X.env = pure none := by rfl) :
    Go X (.Assign [.Tuple ts j p'] e pos :: rest) env H D := ⟨fun σ H1 e0 ok =>
  ⟨_, pss_cons (ps_asg pe_w pg_w hs hw) pb_w, h.run σ H1 e0 ok _ fun v d H2 t2 jj r => by
    obtain ⟨o, env', T, hl, g⟩ := q d H2 (e0.kp.trans t2) jj
    exact T.w A.calm A.nd (ok.mono t2.1) hl r fun σ' ok' _ => g.run _ H2 (Ex.refl _) ok'⟩⟩
/-! ### the pen -/
def Pen (H : Hp) (p : Addr) (n : Nat) : Prop := ∃ a b c : Int, H p = some (.lst [.int a, .int b, .int c]) ∧ 0 ≤ a ∧ (0 ≤ b ∧ b < 1000000007) ∧ 0 ≤ c ∧ c + n ≤ 1000000
theorem Pen.ex {H H' : Hp} {p : Addr} {n : Nat} (h : Pen H p n) (e : Ex H H') : Pen H' p n := by
  obtain ⟨a, b, c, h1, h2⟩ := h
  exact ⟨a, b, c, e _ _ h1, h2⟩
theorem Pen.kp {M : List Addr} {H H' : Hp} {p : Addr} {n : Nat} (h : Pen H p n) (e : Kp M H H') (hp : p ∉ M) : Pen H' p n := by
  obtain ⟨a, b, c, h1, h2⟩ := h
  exact ⟨a, b, c, e.2 _ _ hp h1, h2⟩
theorem Pen.le {H : Hp} {p : Addr} {n m : Nat} (h : Pen H p n) (e : m ≤ n) : Pen H p m := by
  obtain ⟨a, b, c, h1, h2, h3, h4, h5⟩ := h
  exact ⟨a, b, c, h1, h2, h3, h4, by omega⟩
theorem Pen.not {H : Hp} {p : Addr} {n : Nat} (h : Pen H p n) : H p ≠ none := by
  obtain ⟨a, b, c, h1, h2⟩ := h
  rw [h1]
  exact fun z => by cases z
theorem Pen.has {H : Hp} {p : Addr} {n : Nat} (h : Pen H p n) : Has1 [p] H := fun b hb => by
  obtain rfl : b = p := by simpa using hb
  exact h.not
theorem not1 {l p : Addr} (h : l ≠ p) : l ∉ [p] := fun z => h (by simpa using z)
/-- a def that draws: c its cost, D what it gives -/
def SpP (R : List PyData → Nat → (PyData → Prop) → Prop) : Sp := fun vs H Q _ => ∃ p us ds c D n, vs = V.ref p :: us ∧ R ds c D ∧ RpA H us ds ∧ Pen H p (n + c) ∧ ∀ v d H', Kp [p] H H' → Pen H' p n → D d → Rp H' v d → Q v H'
theorem em_pc {n : Str} {k' : Nat} {ps : List Str} {R : List PyData → Nat → (PyData → Prop) → Prop} {pn : Addr} {cst m : Nat} {DD : PyData → Prop} [hc : HasCal n k' ps (SpP R)] (A : Hs X k) (hs : X.env.scope = sc) (hv : EvV X a env H (.ref pn)) (ha : EvA X es env H ds) (hr : R ds cst DD) (hpn : Pen H pn (m + cst)) (hM : pn ∈ M)
    (q : ∀ d H', Kp [pn] H H' → Pen H' pn m → DD d → J d H') (hg : glB sc n = true := by decide +kernel) (hk : k' ≤ k := by decide) (hp : (a :: es).all plainE = true := by rfl) :
    EvM X M (.Call (.Name n p) (a :: es) [] pos) env H J := ⟨fun σ H1 e0 ok Q kk => by
  obtain ⟨E, h⟩ := pe_cal (p := p) (pos := pos) (hc := hc) A hs hg hk hp
  refine ⟨_, h, ⟨_, pa_cons pe_w pa_w (star_of (Bool.and_eq_true_iff.mp hp).1), hv.run σ H1 e0 ok _ fun H2 e2 => ha.run σ H2 (e0.trans e2) (ok.mono e2.t) _ fun vs H3 e3 r => ?_⟩⟩
  show SpP R ((.ref pn :: vs) ++ []) H3 Q E
  rw [List.append_nil]
  have eA := (e0.trans e2).trans e3
  refine ⟨pn, vs, ds, cst, DD, m, rfl, hr, r, hpn.ex eA, fun v d H' k1 k2 k3 k4 => kk v d H' (((e2.trans e3).kp).trans (k1.sub fun b hb => ?_)) (q d H' (eA.kp.trans k1) k2 k3) k4⟩
  obtain rfl : b = pn := by simpa using hb
  exact hM⟩
end
/-- names known by value or by data at the start -/
inductive StA (H : Hp) : List V → List Sl → Prop
  | nil : StA H [] []
  | cons {v : V} {vs : List V} {s : Sl} {ss : List Sl} : SlOk H (some v) s → StA H vs ss → StA H (v :: vs) (s :: ss)
theorem StA.len {H : Hp} : ∀ {vs : List V} {ss : List Sl}, StA H vs ss → vs.length = ss.length
  | _, _, .nil => rfl
  | _, _, .cons _ r => congrArg Nat.succ r.len
def nvS : List Str → List Sl → List Str → Nv
  | p :: ps, s :: ss, more => (p, s) :: nvS ps ss more
  | [], _, more => unM more
  | _ :: _, [], more => unM more
theorem nvS_start {H : Hp} : ∀ {vs : List V} {ss : List Sl} {ps more : List Str}, StA H vs ss → ps.length = ss.length → NvA H (vs.map some ++ List.replicate more.length none) (nvS ps ss more)
  | _, _, [], more, .nil, _ => nva_un more
  | _, _, p :: ps, more, .cons r rr, hl => .cons r (nvS_start rr (by simpa using hl))
theorem nvS_names : ∀ {ps : List Str} {ss : List Sl} {more : List Str}, ps.length = ss.length → ps ++ more = (nvS ps ss more).map (·.1)
  | [], [], more, _ => (unM_names more).symm
  | p :: ps, d :: ds, more, h => congrArg (p :: ·) (nvS_names (by simpa using h))
theorem nvS_vis {sc : Scope} : ∀ {ps : List Str} {ds : List Sl} {more : List Str}, ps.all (visB sc) = true → ∀ p ∈ nvS ps ds more, p.2 ≠ .un → Vis sc p.1
  | [], [], more, _ => unM_vis more
  | [], _ :: _, more, _ => unM_vis more
  | _ :: _, [], more, _ => unM_vis more
  | p :: ps, d :: ds, more, h => vis1 (Bool.and_eq_true_iff.mp h).1 (nvS_vis (Bool.and_eq_true_iff.mp h).2)
theorem go_beginS {X : Cx} {b : List Stmt} {vs : List V} {ss : List Sl} {ps more : List Str} {H : Hp} {D : Ends} {sc : Scope} (hs : X.env.scope = sc) (hN : X.N = ps ++ more) (q : StA H vs ss) (hl : ps.length = ss.length) (hv : ps.all (visB sc) = true) (g : Go X b (nvS ps ss more) H D) : wB X b D (L2.start (ps ++ more) vs) H := by
  refine g.run _ H (Ex.refl _) ⟨?_, ?_, ?_⟩
  · rw [hN]
    exact nvS_names hl
  · have := nvS_start (more := more) q hl
    unfold L2.start
    rw [List.length_append, q.len, ← hl, Nat.add_sub_cancel_left]
    exact this
  · rw [hs]
    exact nvS_vis hv
end WK
/-! WKDraw -/
set_option Elab.async false
set_option linter.all false
set_option maxRecDepth 100000
set_option maxHeartbeats 1000000
/-! Drawing. -/
namespace WK
open PySem PySem.Spec PyProof.Rows L2
theorem ixN_ofNat {n j : Nat} (hj : j < n) : ixN n (j : Int) = some j := by
  unfold ixN
  rw [if_pos (by omega)]
  simp [hj]
theorem RpA.set {H : Hp} : ∀ {vs : List V} {ds : List PyData} {v : V} {d : PyData}, RpA H vs ds → Rp H v d → ∀ j : Nat, RpA H (vs.set j v) (ds.set j d)
  | _, _, _, _, .nil, _, _ => .nil
  | _, _, _, _, .cons _ r, q, 0 => .cons q r
  | _, _, _, _, .cons h r, q, j + 1 => .cons h (RpA.set r q j)
theorem lst_ints {H : Hp} {l : Addr} {a b c : Int} (h : Lst H l [.int a, .int b, .int c]) : H l = some (.lst [.int a, .int b, .int c]) := by
  obtain ⟨vs, h1, r⟩ := h
  cases r with
  | cons r1 r =>
  cases r with
  | cons r2 r =>
  cases r with
  | cons r3 r =>
  cases r
  cases r1
  cases r2
  cases r3
  exact h1
theorem ints_lst {H : Hp} {l : Addr} {a b c : Int} (h : H l = some (.lst [.int a, .int b, .int c])) : Lst H l [.int a, .int b, .int c] := ⟨_, h, .cons (.int a) (.cons (.int b) (.cons (.int c) .nil))⟩
theorem ExL.kp {H H' : Hp} {l : Addr} {ds : List PyData} (e : ExL l H H') (h : Lst H l ds) (h' : ∃ es, Lst H' l es) : Kp [l] H H' := ⟨e.t h.not, fun b o n => e b o fun z => n (by rw [z]; exact List.mem_cons_self), fun b hb => by
  by_cases z : b = l
  · obtain ⟨es, vs, h1, _⟩ := h'
    rw [z, h1] at hb
    cases hb
  · cases q : H b with
    | none => rfl
    | some o =>
      rw [e b o z q] at hb
      cases hb⟩
section
variable {X : Cx} {k : Nat} {e a b nm : Expr} {env : Nv} {H : Hp} {D : Ends} {d : PyData} {ds : List PyData} {pos p p2 : Pos} {rest : List Stmt} {i j : Int}
theorem ed_mul (ha : EvD X a env H (.int i)) (hb : EvD X b env H (.int j)) (h : -18446744073709551616 < i ∧ i < 18446744073709551616) : EvD X (.BinOp a .Mult b pos) env H (.int (i * j)) := ed_opI op_mul ha hb (.inl h)
theorem ed_mod (ha : EvD X a env H (.int i)) (hb : EvD X b env H (.int j)) (h : 0 < j) : EvD X (.BinOp a .Mod b pos) env H (.int (i % j)) := ed_opI op_mod ha hb h
theorem ed_fdiv (ha : EvD X a env H (.int i)) (hb : EvD X b env H (.int j)) (h : 0 < j ∧ j < 1073741824) : EvD X (.BinOp a .FloorDiv b pos) env H (.int (i / j)) := ed_opI op_fdiv ha hb h
/-- l[j] = e -/
theorem go_lput {l : Addr} {j : Nat} {kk : Nat} (hv : ∀ H, EvV X nm env H (.ref l)) (hl : Lst H l ds) (he : EvD X e env H d) (hj : j < ds.length) (q : ∀ H', ExL l H H' → Lst H' l (ds.set j d) → Go X rest env H' D) (hp : ∀ v, assign (.Subscript nm (.Constant (.int (j : Int)) kk p2) p) X.env v = (do
      let ov ← holding [v] (eval nm X.env)
      let iv ← holding [v, ov] (eval (.Constant (.int (j : Int)) kk p2) X.env)
      standAt p
      holding [v, ov, iv] (setItem ov iv v)
      release [v, ov, iv] []) := by intro _; rfl)
    (hs : swapsWithSole [.Subscript nm (.Constant (.int (j : Int)) kk p2) p] e pos.line X.env = pure false := by rfl) (hw : swappedStores [.Subscript nm (.Constant (.int (j : Int)) kk p2) p] e X.env = pure none := by rfl) :
    Go X (.Assign [.Subscript nm (.Constant (.int (j : Int)) kk p2) p] e pos :: rest) env H D := ⟨fun σ H1 e0 ok => by
  refine ⟨_, pss_cons (ps_asg pe_w (pg_sub pe_w pe_int set_list hp) hs hw) pb_w, he.run σ H1 e0 ok _ fun v H2 e2 r => ?_⟩
  refine (hv H2).run σ H2 (Ex.refl _) (ok.mono e2.t) _ fun H3 e3 => ?_
  obtain ⟨vs, h1, r1⟩ := hl.ex ((e0.trans e2).trans e3)
  have r3 := r.mono e3.t
  have t : TLe H3 (upd H3 l (.lst (vs.set j v))) := TLe.upd fun xs z => by
    rw [h1] at z
    cases z
  refine ⟨l, vs, (j : Int), j, rfl, rfl, h1, ixN_ofNat (by rw [r1.len]; exact hj), ?_⟩
  refine (q _ (fun b o hb z => ?_) ⟨_, upd_same, ?_⟩).run σ _ (Ex.refl _) (((ok.mono e2.t).mono e3.t).mono t)
  · rw [upd_ne hb]
    exact ((e0.trans e2).trans e3) _ _ z
  · exact (RpA.set r1 r3 j).mono t⟩
end
theorem len_P {R : List PyData → Nat → (PyData → Prop) → Prop} {ps : List Str} (h : ∀ ds c D, R ds c D → ps.length = ds.length + 1) : ∀ vs H Q E, SpP R vs H Q E → vs.length = ps.length := fun vs H Q E ⟨p, us, ds, c, D, n, e, r, ra, _⟩ => by
  rw [e, h ds c D r, ← ra.len]
  rfl
def IntB (m : Int) (d : PyData) : Prop := ∃ i : Int, d = .int i ∧ 0 ≤ i ∧ i < m
inductive R_draw : List PyData → Nat → (PyData → Prop) → Prop
  | mk (m : Int) (h : 1 ≤ m ∧ m ≤ 1000000000) : R_draw [.int m] 1 (IntB m)
theorem len__law_draw : ∀ vs H Q E, SpP R_draw vs H Q E → vs.length = (["_law_pen_here", "_law_many"] : List Str).length := len_P fun ds c D h => by cases h; rfl
theorem modB (i : Int) {m : Int} (h : 0 < m) : 0 ≤ i % m ∧ i % m < m := ⟨Int.emod_nonneg _ (by omega), Int.emod_lt_of_pos _ h⟩
theorem sc__law_draw : FnScope ((["_law_pen_here", "_law_many"] : List Str) ++ (["_law_stir", "_law_digit"] : List Str)) ["_law_pen_here", "_law_many"] (defScope (top 101)) := fnScope_by (by decide +kernel)
instance : HasCal "_law_draw" 1 ["_law_pen_here", "_law_many"] (SpP R_draw) := ⟨fun P w K mg T => by
  refine Cal.mk' T (i := 101) (N := (["_law_pen_here", "_law_many"] : List Str) ++ (["_law_stir", "_law_digit"] : List Str)) (List.mem_of_getElem? (i := 50) rfl) (by decide +kernel) sc__law_draw (fun _ _ _ _ _ _ us hl => match us, hl with | [_, _], _ => rfl) len__law_draw fun X A hs hN hf vs H Q E h => ?_
  obtain ⟨p, us, ds, c, DD, n, rfl, hr, ra, pen, q⟩ := h
  cases hr with
  | mk m hm =>
  cases ra with
  | cons ra rb =>
  cases rb
  cases ra
  obtain ⟨a, b, cc, h1, h2, h3, h4, h5⟩ := pen
  refine go_beginS (ss := [.v (.ref p), .d (.int m)]) hs hN (.cons rfl (.cons (.int m) .nil)) rfl (by decide +kernel) ?_
  have hl := ints_lst h1
  simp only [nvS, unM]
  have hv : ∀ H, EvV X (.Name "_law_pen_here" ⟨0, 0, 0, 0⟩) ([("_law_pen_here", .v (.ref p)), ("_law_many", .d (.int m)), ("_law_stir", .un), ("_law_digit", .un)] : Nv) H (.ref p) := fun H => ev_var .here hs (by decide +kernel)
  refine go_when (et_gt (ed_ixR (EvV.r (ev_var .here hs (by decide +kernel)) hl) ed_int (by first | rfl | assumption | decide +kernel)) ed_int) (fun ht => ?_) (fun ht => ?_)
  · refine gm_set (M := [p]) A (em_d (J := fun d H1 => d = .int (a % m) ∧ Ex H H1) (ed_mod (ed_ixR (EvV.r (ev_var .here hs (by decide +kernel)) hl) ed_int (by first | rfl | assumption | decide +kernel)) (ed_var (.next (.here)) hs (by decide +kernel)) (by omega)) fun H1 e1 => ⟨rfl, e1⟩) (fun d => (.next (.next (.next (.here))))) (locN hf hs (by decide +kernel)) fun d H1 k1 hd => ?_
    obtain ⟨rfl, e1⟩ := hd
    have hl := hl.ex e1
    refine go_lput (j := 0) (fun H => ev_var .here hs (by decide +kernel)) hl (ed_fdiv (ed_ixR (EvV.r (ev_var .here hs (by decide +kernel)) hl) ed_int (by first | rfl | assumption | decide +kernel)) (ed_var (.next (.here)) hs (by decide +kernel)) (by omega)) (by show 0 < 3; decide) fun H2 x2 l2 => ?_
    have k2 := x2.kp hl ⟨_, l2⟩
    have B := modB a (m := m) (by omega)
    have l3 := lst_ints l2
    have hq := Int.ediv_nonneg h2 (by omega : 0 ≤ m)
    exact go_ret (ed_var (.next (.next (.next (.here)))) hs (by decide +kernel)) fun v H3 e3 r => q v _ H3 ((e1.kp.trans k2).trans e3.kp) ⟨_, _, _, e3 _ _ l3, hq, h3, h4, by omega⟩ ⟨_, rfl, B⟩ r
  · refine go_lput (j := 2) (fun H => ev_var .here hs (by decide +kernel)) hl (ed_add (ed_ixR (EvV.r (ev_var .here hs (by decide +kernel)) hl) ed_int (by first | rfl | assumption | decide +kernel)) ed_int) (by show 2 < 3; decide) fun H2 x2 l2 => ?_
    have k2 := x2.kp hl ⟨_, l2⟩
    have l2 : Lst H2 p [.int a, .int b, .int (cc + 1)] := l2
    refine gm_set (M := [p]) A (em_d (J := fun d H1 => IntB 2147483647 d ∧ Ex H2 H1) (ed_mod (ed_mul (ed_add (ed_ixR (EvV.r (ev_var .here hs (by decide +kernel)) l2) ed_int (by first | rfl | assumption | decide +kernel)) (ed_mul ed_int (ed_ixR (EvV.r (ev_var .here hs (by decide +kernel)) l2) ed_int (by first | rfl | assumption | decide +kernel)) (by omega))) (ed_add ed_int (ed_mul ed_int (ed_ixR (EvV.r (ev_var .here hs (by decide +kernel)) l2) ed_int (by first | rfl | assumption | decide +kernel)) (by omega))) (by omega)) ed_int (by omega)) fun H1 e1 => ⟨⟨_, rfl, modB _ (by decide)⟩, e1⟩) (fun d => (.next (.next (.here)))) (locN hf hs (by decide +kernel)) fun d H3 _ hd => ?_
    obtain ⟨⟨st, rfl, s1, s2⟩, e3⟩ := hd
    have l3 := l2.ex e3
    refine gm_set (M := [p]) A (em_d (J := fun d H1 => IntB 2147483629 d ∧ Ex H3 H1) (ed_mod (ed_add (ed_add (ed_mul (ed_var (.next (.next (.here))) hs (by decide +kernel)) (ed_var (.next (.next (.here))) hs (by decide +kernel)) (by omega)) (ed_mul ed_int (ed_ixR (EvV.r (ev_var .here hs (by decide +kernel)) l3) ed_int (by first | rfl | assumption | decide +kernel)) (by omega))) ed_int) ed_int (by omega)) fun H1 e1 => ⟨⟨_, rfl, modB _ (by decide)⟩, e1⟩) (fun d => (.next (.next (.here)))) (locN hf hs (by decide +kernel)) fun d H4 _ hd => ?_
    obtain ⟨⟨st2, rfl, t1, t2⟩, e4⟩ := hd
    have l4 := lst_ints (l3.ex e4)
    exact go_ret (ed_mod (ed_fdiv (ed_mod (ed_mul (ed_var (.next (.next (.here))) hs (by decide +kernel)) ed_int (by omega)) ed_int (by omega)) ed_int (by omega)) (ed_var (.next (.here)) hs (by decide +kernel)) (by omega)) fun v H5 e5 r => q v _ H5 (k2.trans ((e3.trans e4).trans e5).kp) ⟨_, _, _, e5 _ _ l4, h2, h3, by omega, by omega⟩ ⟨_, rfl, modB _ (by omega)⟩ r⟩
end WK
/-! WKLcM -/
set_option Elab.async false
set_option linter.all false
set_option maxRecDepth 100000
set_option maxHeartbeats 1000000
/-! Comprehensions whose block changes the objects at M. -/
namespace WK
open PySem PySem.Spec PyProof.Rows L2
structure TsM (X : Cx) (M : List Addr) (ifs : List Expr) (env : Nv) (H : Hp) (J : Bool → Hp → Prop) : Prop where
  run : ∀ σ H1, Ex H H1 → NvOk X H1 σ env → ∀ Q : Bool → Hp → Prop, (∀ b H2, Kp M H1 H2 → J b H2 → Q b H2) → wTs X ifs σ H1 Q
/-- what is walked -/
structure IvM (X : Cx) (M : List Addr) (tg it : Expr) (env : Nv) (H : Hp) (J : List PyData → Hp → Prop) : Prop where
  run : ∀ σ H1, Ex H H1 → NvOk X H1 σ env → ∀ R : It → Hp → Prop, (∀ T H2 items o, Kp M H1 H2 → J items H2 → (∀ b ∈ o, b ∉ M ∧ ∃ u, H2 b = some u) → Iter T H2 items o → R T H2) → wI X tg it σ H1 R
section
variable {X : Cx} {k : Nat} {M : List Addr} {e a b c it tg elt : Expr} {es ifs : List Expr} {env env1 env2 : Nv} {H : Hp} {d x y : PyData} {ds items : List PyData} {pos p : Pos} {sc scope : Scope} {own : List (Str × Nat)} {owx : List Addr} {JB : Bool → Hp → Prop} {JI : List PyData → Hp → Prop}
theorem tsm_nil (q : ∀ H1, Ex H H1 → JB true H1) : TsM X M [] env H JB := ⟨fun σ H1 e0 ok Q k => ⟨_, pts_nil, k true H1 (Kp.refl _) (q H1 e0)⟩⟩
theorem tsm_one (h : TvM X M c env H JB) : TsM X M [c] env H JB := ⟨fun σ H1 e0 ok Q k => ⟨_, pts_one pt_w, h.run σ H1 e0 ok Q k⟩⟩
theorem im_i (hi : EvI X tg it env H items owx) (hM : Has1 M H) (ho : ∀ b ∈ owx, b ∉ M) (q : ∀ H1, Ex H H1 → JI items H1) : IvM X M tg it env H JI := ⟨fun σ H1 e0 ok R k => hi.run σ H1 e0 ok R fun T H2 o e2 h2 I => k T H2 items o e2.kp (q H2 (e0.trans e2)) (fun b hb => by
  obtain ⟨h3, h4⟩ := h2 b hb
  refine ⟨?_, h4⟩
  rcases h3 with h3 | h3
  · exact (e0.kp.has (M := M) hM).fresh h3
  · exact ho b h3) I⟩
theorem lcm_run (A : Hs X k) (hs : X.env.scope = sc) (hM : Has1 M H) (hi : IvM X M tg it env H JI) {N : List Str} (hN : env.map (·.1) = N) (ok : ownC sc scope N own = true) (cap : Cap (relS scope sc) (own.map (·.2)) 0 env env1)
    (P : List PyData → Nat → List PyData → Hp → Prop) (p0 : ∀ items H1, Kp M H H1 → JI items H1 → items.length ≤ 100000 ∧ P items 0 [] H1) (pe : ∀ items i acc H' H'' l, H l = none → ExL l H' H'' → TLe H' H'' → P items i acc H' → P items i acc H'')
    (turn : ∀ items i d acc H', items[i]? = some d → P items i acc H' → Kp M H H' → ∃ env2, Tgt tg d env1 own env2 ∧ ∀ X', Hs X' k → X'.K = X.K → X'.env.scope = relS scope sc →
      TsM X' M ifs env2 H' fun b H2 => if b = true then ∀ X'', Hs X'' k → X''.K = X.K → X''.env.scope = relS scope sc → EvM X'' M elt env2 H2 fun y H3 => P items (i + 1) (acc ++ [y]) H3 else P items (i + 1) acc H2)
    {σ : L2.St} {H1 : Hp} (e0 : Ex H H1) (okk : NvOk X H1 σ env) {Q : VK} (q : ∀ p H2 acc items, H1 p = none → Kp M H1 H2 → P items items.length acc H2 → Lst H2 p acc → Q (.ref p) H2) : BlkOk X.N X.env.scope scope own ∧ tLc (wI X tg it) (gB X scope tg) (tB X scope ifs) (eB X scope elt) (own.map (·.2)) σ H1 Q := by
  subst hs hN
  obtain ⟨ok1, ok2⟩ := Bool.and_eq_true_iff.mp ok
  rw [← okk.names] at ok1
  refine ⟨blkOk_by ok1, ?_⟩
  refine hi.run σ H1 e0 okk _ fun J H2 items o e2 jI ho I => fun Dl hD => ?_
  have hex := e0.kp.trans e2
  obtain ⟨hz, hp0⟩ := p0 items H2 hex jI
  have hD0 : H Dl = none := hex.s _ hD
  have nM : Dl ∉ M := (hex.has hM).fresh hD
  have en := Ex.new (o := HO.lst []) hD
  refine lc_it (g := gB X scope tg) (tt := tB X scope ifs) (te := eB X scope elt) (vs := own.map (·.2)) (σ := σ) (Qd := Q (.ref Dl)) I.walk (fun i H' => Kp M H2 H' ∧ ∃ acc, Lst H' Dl acc ∧ acc.length ≤ i ∧ P items i acc H') ⟨en.kp, [], ⟨[], upd_same, .nil⟩, Nat.le_refl _, pe _ _ _ _ _ Dl hD0 en.l en.t hp0⟩ (fun i H' _ p => ⟨p.1.t, fun b hb => ?_⟩) ?_ (fun H' p => ?_)
  · obtain ⟨h1, u, hu⟩ := ho b hb
    rw [hu]
    exact p.1.k _ _ h1 hu
  · rintro i x H' H'' hi' ⟨p1, acc, p2, pl, p3⟩ ⟨ex, d, hd, r⟩
    have hp1 := hex.trans p1
    obtain ⟨env2, T, tr⟩ := turn items i d acc H'' hd (pe _ _ _ _ _ Dl hD0 ex.l ex.t p3) (hp1.trans ex.kp)
    intro s0 H0 C cl fp
    have nvok : NvOk (X.blk s0 H0 scope (compEnvC scope cl C X.env) fp) H'' (wipe σ (own.map (·.2))) env1 :=
      ⟨okk.names.trans cap.names.symm, cap.sl (okk.sl.mono ((e2.trans p1).t.trans ex.t)) (wipe_length _ _) (fun j hj => by
        rw [wipe_get, if_neg]
        rintro ⟨z, _⟩
        rw [Nat.zero_add, List.contains_iff_mem.mpr z] at hj
        cases hj), cap.vis⟩
    refine T.w (X := X.blk s0 H0 scope (compEnvC scope cl C X.env) fp) A.calm A.nd nvok (blk_loc ok2) r fun σ2 ok3 off => ⟨off.wipe, ?_⟩
    intro s1 H5 C1 cl1 fp1
    refine (tr _ (A.blk s1 H5 cl1 C1 fp1) rfl rfl).run σ2 H'' (Ex.refl _) (ok3.to rfl rfl) _ fun t H3 k3 jt => ?_
    have l3 := k3.lst (p2.ex ex) nM
    cases t with
    | true =>
      rw [if_pos rfl] at jt ⊢
      intro s6 H6 C6 cl6 fp6
      refine (jt _ (A.blk s6 H6 cl6 C6 fp6) rfl rfl).run σ2 H3 (Ex.refl _) (NvOk.mono k3.t (NvOk.to (Z := X.blk s6 H6 scope (compEnvC scope cl6 C6 X.env) fp6) ok3 rfl rfl)) _ fun y dy H4 k4 j4 r4 => ?_
      obtain ⟨ws, h1, h2⟩ := k4.lst l3 nM
      have tt : TLe H4 (upd H4 Dl (.lst (ws ++ [y]))) := TLe.upd fun xs z => by
        rw [h1] at z
        cases z
      have xl : ExL Dl H4 (upd H4 Dl (.lst (ws ++ [y]))) := fun b o n z => by
        rw [upd_ne n]
        exact z
      have kk : Kp M H2 H4 := ((p1.trans ex.kp).trans k3).trans k4
      refine ⟨ws, h1, ?_, ⟨kk.t.trans tt, fun b o n z => ?_, fun b z => ?_⟩, acc ++ [dy], ⟨_, upd_same, (h2.snoc r4).mono tt⟩, by simp; exact pl, pe _ _ _ _ _ Dl hD0 xl tt j4⟩
      · rw [h2.len]
        have h6 : sizeLine = 16777216 := sizeLine_eq
        omega
      · by_cases e : b = Dl
        · rw [e, hD] at z
          cases z
        · rw [upd_ne e]
          exact kk.k b o n z
      · by_cases e : b = Dl
        · rw [e]
          exact hD
        · rw [upd_ne e] at z
          exact kk.s b z
    | false =>
      rw [if_neg (by decide)] at jt ⊢
      exact ⟨(p1.trans ex.kp).trans k3, acc, l3, Nat.le_succ_of_le pl, jt⟩
  · obtain ⟨p1, acc, p2, _, p3⟩ := p
    exact q Dl H' acc items (e2.s _ hD) (e2.trans p1) p3 p2
theorem lm_lc (P : List PyData → Nat → List PyData → Hp → Prop) (A : Hs X k) (hs : X.env.scope = sc) (hM : Has1 M H) (hi : IvM X M tg it env H JI) {N : List Str} (hN : env.map (·.1) = N) (ok : ownC sc scope N own = true) (cap : Cap (relS scope sc) (own.map (·.2)) 0 env env1)
    (p0 : ∀ items H1, Kp M H H1 → JI items H1 → items.length ≤ 100000 ∧ P items 0 [] H1) (pe : ∀ items i acc H' H'' l, H l = none → ExL l H' H'' → TLe H' H'' → P items i acc H' → P items i acc H'')
    (turn : ∀ items i d acc H', items[i]? = some d → P items i acc H' → Kp M H H' → ∃ env2, Tgt tg d env1 own env2 ∧ ∀ X', Hs X' k → X'.K = X.K → X'.env.scope = relS scope sc →
      TsM X' M ifs env2 H' fun b H2 => if b = true then ∀ X'', Hs X'' k → X''.K = X.K → X''.env.scope = relS scope sc → EvM X'' M elt env2 H2 fun y H3 => P items (i + 1) (acc ++ [y]) H3 else P items (i + 1) acc H2)
    (hf : ∀ x, foldedSetIterable it X.env x = pure x := by intro _; rfl) : LvM X M (.ListComp elt [⟨tg, it, ifs, 0⟩] scope pos) env H (fun acc H2 => ∃ items, P items items.length acc H2) := ⟨fun σ H1 e0 okk Q q => by
  obtain ⟨b, r⟩ := lcm_run A hs hM hi hN ok cap P p0 pe turn e0 okk fun p H2 acc items h1 h2 h3 h4 => q p acc H2 h1 h2 ⟨items, h3⟩ h4
  exact ⟨_, pe_lc (g := gB X scope tg) (tt := tB X scope ifs) (te := eB X scope elt) A.calm A.nd pi_w b pgB ptB peB hf, r⟩⟩
/-- y = [..] -/
theorem gm_lc {i : Nat} {n : Str} {q p' : Pos} {nv : Addr → Nv} {D : Ends} {rest : List Stmt} (P : List PyData → Nat → List PyData → Hp → Prop) (A : Hs X k) (hs : X.env.scope = sc) (hM : Has1 M H) (hi : IvM X M tg it env H JI) {N : List Str} (hN : env.map (·.1) = N) (ok : ownC sc scope N own = true) (cap : Cap (relS scope sc) (own.map (·.2)) 0 env env1)
    (p0 : ∀ items H1, Kp M H H1 → JI items H1 → items.length ≤ 100000 ∧ P items 0 [] H1) (pe : ∀ items i acc H' H'' l, H l = none → ExL l H' H'' → TLe H' H'' → P items i acc H' → P items i acc H'')
    (turn : ∀ items i d acc H', items[i]? = some d → P items i acc H' → Kp M H H' → ∃ env2, Tgt tg d env1 own env2 ∧ ∀ X', Hs X' k → X'.K = X.K → X'.env.scope = relS scope sc →
      TsM X' M ifs env2 H' fun b H2 => if b = true then ∀ X'', Hs X'' k → X''.K = X.K → X''.env.scope = relS scope sc → EvM X'' M elt env2 H2 fun y H3 => P items (i + 1) (acc ++ [y]) H3 else P items (i + 1) acc H2)
    (hp : ∀ a, Put env i n (.v (.ref a)) (nv a)) (sw : swL sc scope n pos q = true) (kk : ∀ a H1 acc items, H a = none → Kp M H H1 → P items items.length acc H1 → Lst H1 a acc → Go X rest (nv a) H1 D)
    (hf : ∀ x, foldedSetIterable it X.env x = pure x := by intro _; rfl) : Go X (.Assign [.Name n q] (.ListComp elt [⟨tg, it, ifs, 0⟩] scope pos) p' :: rest) env H D := ⟨fun σ H1 e0 okk => by
  have hl : X.env.scope.names.lookup n = some .local := by
    rw [hs]
    unfold swL at sw
    simp only [Bool.and_eq_true, decide_eq_true_eq] at sw
    exact sw.1.1.2
  have key := lcm_run (Q := fun x H2 => gName i x σ H2 (wB X rest D)) A hs hM hi hN ok cap P p0 pe turn e0 okk fun p H2 acc items hn k2 p3 l2 => (kk p H2 acc items (e0.back hn) (e0.kp.trans k2) p3 l2).run _ H2 (Ex.refl _) ((okk.mono k2.t).put (hp p) rfl (.inl hl))
  exact ⟨_, pss_cons (ps_setLc (g := gB X scope tg) (tt := tB X scope ifs) (te := eB X scope elt) A.calm A.nd (by rw [okk.names]; exact (hp 0).name.1) hl (swL_of hs sw) pi_w key.1 pgB ptB peB hf) pb_w, key.2⟩⟩
/-- tuple([..]) -/
theorem em_tupL {J : PyData → Hp → Prop} {JA : List PyData → Hp → Prop} (A : Hs X k) (hs : X.env.scope = sc) (ha : LvM X M a env H JA) (q : ∀ ds H1 H2, Kp M H H1 → JA ds H1 → Ex H1 H2 → J (.tuple ds) H2) (hg : glB sc "tuple" = true := by decide +kernel) (hp : plainE a = true := by rfl) : EvM X M (.Call (.Name "tuple" p) [a] [] pos) env H J := ⟨fun σ H1 e0 ok Q kk =>
  ⟨_, pe_callTy call_tuple_of (gl_of hs hg) (A.t.free (by decide +kernel)) PyProof.Rows.boot_tuple (pa_cons pe_w pa_nil (star_of hp)) (by decide) (gl_db hg) (star_of hp) (plain_of rfl), ha.run σ H1 e0 ok _ fun l ds H2 hn k2 j hl => by
    obtain ⟨vs, h1, h2⟩ := hl
    exact ⟨l, vs, rfl, .inl ⟨SqL.of h1, fun pp hp => kk _ _ _ (k2.trans (Ex.new hp).kp) (q ds H2 _ (e0.kp.trans k2) j (Ex.new hp)) (.tup upd_same (h2.mono (Ex.new hp).t))⟩⟩⟩⟩
/-- range(..) -/
theorem im_range {J : PyData → Hp → Prop} (A : Hs X k) (hs : X.env.scope = sc) (hg : glB sc "range" = true) (h : EvM X M a env H fun d H1 => Kp M H H1 → ∃ n, d = .int n ∧ (0 ≤ n ∧ n ≤ 1000000) ∧ JI (rangeD n) H1) (hp : plainE a = true := by rfl) : IvM X M tg (.Call (.Name "range" p) [a] [] pos) env H JI := ⟨fun σ H1 e0 ok R q =>
  ⟨_, pi_range1 (gl_of hs hg) (A.t.free (by decide +kernel)) pa_w (star_of hp), ⟨_, pa_cons pe_w pa_nil (star_of hp), h.run σ H1 e0 ok _ fun v d H2 k2 jj r => by
    obtain ⟨n, e1, hn, j⟩ := jj (e0.kp.trans k2)
    subst e1
    cases r
    refine ⟨n, rfl, by omega, by omega, q _ H2 (rangeD n) [] k2 j (fun b hb => by cases hb) ⟨?_⟩⟩
    have hl : (rangeD n).length = n.toNat := by unfold rangeD; simp
    rw [hl]
    refine walk_mono walk_range (fun _ _ => True.intro) fun i H' x H'' hi g y => ?_
    obtain ⟨e, z⟩ := y
    subst e z
    refine ⟨Ex.refl _, .int (i : Int), ?_, by show Rp H'' (.int (0 + (i : Int))) _; rw [Int.zero_add]; exact .int _⟩
    unfold rangeD
    rw [List.getElem?_map, List.getElem?_range hi]
    rfl⟩⟩⟩
end
end WK
/-! WKKey -/
set_option Elab.async false
set_option linter.all false
set_option maxRecDepth 100000
set_option maxHeartbeats 1000000
/-! Drawing keys, boxes. -/
namespace WK
open PySem PySem.Spec PyProof.Rows L2
/-- a draw -/
theorem em_draw {X : Cx} {k : Nat} {M : List Addr} {a e : Expr} {env : Nv} {H : Hp} {m : Int} {n : Nat} {pos p : Pos} {sc : Scope} {pn : Addr} {J : PyData → Hp → Prop} (A : Hs X k) (hs : X.env.scope = sc) (hv : EvV X a env H (.ref pn)) (ha : EvD X e env H (.int m)) (hm : 1 ≤ m ∧ m ≤ 1000000000) (hpn : Pen H pn (n + 1)) (hM : pn ∈ M)
    (q : ∀ i H', Kp [pn] H H' → Pen H' pn n → 0 ≤ i → i < m → J (.int i) H') (hg : glB sc "_law_draw" = true := by decide +kernel) (hk : 1 ≤ k := by decide) (hp : (a :: [e]).all plainE = true := by rfl) :
    EvM X M (.Call (.Name "_law_draw" p) [a, e] [] pos) env H J := em_pc (n := "_law_draw") A hs hv (ea_cons ha ea_nil (Bool.and_eq_true_iff.mp (Bool.and_eq_true_iff.mp hp).2).1) (R_draw.mk m hm) hpn hM (fun d H' k1 k2 h3 => by
      obtain ⟨i, rfl, h4, h5⟩ := h3
      exact q i H' k1 k2 h4 h5) hg hk hp
/-- the pen by the turn: c a turn -/
def PI (p : Addr) (n c : Nat) (R : List PyData → Nat → List PyData → Prop) (items : List PyData) (i : Nat) (acc : List PyData) (H : Hp) : Prop := i ≤ items.length ∧ Pen H p (n + c * (items.length - i)) ∧ R items i acc
theorem pi_pe {p : Addr} {n c m : Nat} {R : List PyData → Nat → List PyData → Prop} {H : Hp} (h : Pen H p m) : ∀ items i acc H' H'' l, H l = none → ExL l H' H'' → TLe H' H'' → PI p n c R items i acc H' → PI p n c R items i acc H'' := by
  rintro items i acc H' H'' l hl x _ ⟨h1, ⟨a, b, cc, h2, h3⟩, h4⟩
  refine ⟨h1, ⟨a, b, cc, x p _ (fun z => ?_) h2, h3⟩, h4⟩
  rw [z] at h
  exact h.not hl
theorem pi_step {p : Addr} {n c i : Nat} {H : Hp} {items : List PyData} {d : PyData} (hd : items[i]? = some d) (h : Pen H p (n + c * (items.length - i))) : Pen H p ((n + c * (items.length - (i + 1))) + c) := by
  have hi : i < items.length := by
    rcases Nat.lt_or_ge i items.length with h | h
    · exact h
    · rw [List.getElem?_eq_none_iff.mpr h] at hd
      cases hd
  refine h.le (Nat.le_of_eq ?_)
  have e : items.length - i = (items.length - (i + 1)) + 1 := by omega
  rw [e, Nat.mul_add, Nat.mul_one, Nat.add_assoc]
theorem lt_of_get {items : List PyData} {i : Nat} {d : PyData} (hd : items[i]? = some d) : i < items.length := by
  rcases Nat.lt_or_ge i items.length with h | h
  · exact h
  · rw [List.getElem?_eq_none_iff.mpr h] at hd
    cases hd
/-- a row of numbers below m -/
def Low (m : Int) (t : Nat) (acc : List PyData) : Prop := ∃ l : List Int, acc = zD l ∧ l.length = t ∧ ∀ x ∈ l, 0 ≤ x ∧ x < m
theorem low_nil {m : Int} : Low m 0 [] := ⟨[], rfl, rfl, fun x h => by cases h⟩
theorem low_snoc {m i : Int} {t : Nat} {acc : List PyData} (h : Low m t acc) (h1 : 0 ≤ i) (h2 : i < m) : Low m (t + 1) (acc ++ [.int i]) := by
  obtain ⟨l, rfl, hl, h3⟩ := h
  refine ⟨l ++ [i], by unfold zD; simp, by simp [hl], fun x hx => ?_⟩
  rcases List.mem_append.mp hx with z | z
  · exact h3 x z
  · obtain rfl : x = i := by simpa using z
    exact ⟨h1, h2⟩
inductive R_key : List PyData → Nat → (PyData → Prop) → Prop
  | mk (t : Int) (h : 0 ≤ t ∧ t ≤ 3) : R_key [.int t] 3 (fun d => ∃ key, d = kD key ∧ KeyOk t key)
theorem len__law_key : ∀ vs H Q E, SpP R_key vs H Q E → vs.length = (["_law_pen_here", "_law_teeth"] : List Str).length := len_P fun ds c D h => by cases h; rfl
theorem sc__law_key : FnScope ((["_law_pen_here", "_law_teeth"] : List Str) ++ (["_law_tooth"] : List Str)) ["_law_pen_here", "_law_teeth"] (defScope (top 106)) := fnScope_by (by decide +kernel)
instance : HasCal "_law_key" 2 ["_law_pen_here", "_law_teeth"] (SpP R_key) := ⟨fun P w K mg T => by
  refine Cal.mk' T (i := 106) (N := (["_law_pen_here", "_law_teeth"] : List Str) ++ (["_law_tooth"] : List Str)) (List.mem_of_getElem? (i := 55) rfl) (by decide +kernel) sc__law_key (fun _ _ _ _ _ _ us hl => match us, hl with | [_, _], _ => rfl) len__law_key fun X A hs hN hf vs H Q E h => ?_
  obtain ⟨p, us, ds, c, DD, n, rfl, hr, ra, pen, q⟩ := h
  cases hr with
  | mk t ht =>
  cases ra with
  | cons ra rb =>
  cases rb
  cases ra
  refine go_beginS (ss := [.v (.ref p), .d (.int t)]) hs hN (.cons rfl (.cons (.int t) .nil)) rfl (by decide +kernel) ?_
  simp only [nvS, unM]
  have tl : (rangeD t).length = t.toNat := rangeD_len t
  refine gm_ret (M := [p]) (em_tupL (J := fun d H' => (∃ key, d = kD key ∧ KeyOk t key) ∧ Pen H' p n) A hs (lm_lc (N := ["_law_pen_here", "_law_teeth", "_law_tooth"]) (own := [("_law_tooth", 2)]) (PI p n 1 fun items i acc => items = rangeD t ∧ Low 7 i acc) A hs pen.has (im_i (JI := fun its H1 => its = rangeD t ∧ Pen H1 p (n + 3)) (ei_range A hs (by decide +kernel) (ed_var (.next (.here)) hs (by decide +kernel)) (by first | omega | decide)) pen.has (fun b hb => by cases hb) (fun _ e1 => ⟨rfl, pen.ex e1⟩)) rfl (by decide +kernel) (.keep (by decide +kernel) (by decide) (.drop (.drop .nil))) (fun items H1 k1 e => by
        obtain ⟨rfl, e⟩ := e
        exact ⟨by omega, Nat.zero_le _, e.le (by omega), rfl, low_nil⟩) (pi_pe pen) (fun items i d acc Hc hd hP hk => by
      obtain ⟨h1, h2, h3, h4⟩ := hP
      exact ⟨_, (.name (.next (.next (.here)))), fun X A hK hs => (tsm_nil fun H2 e2 => fun X A hK hs => em_draw A hs (ev_var .here hs (by decide +kernel)) ed_int (by decide) ((pi_step hd h2).ex e2) (List.mem_singleton.mpr rfl) fun i3 H3 k3 p3 g1 g2 => ⟨lt_of_get hd, p3, h3, low_snoc h4 g1 g2⟩)⟩)) fun ds H1 H2 k1 hj e2 => ?_) fun v d H1 k1 hj r => q v d H1 k1 hj.2 hj.1 r
  obtain ⟨items, h1, h2, rfl, h3⟩ := hj
  obtain ⟨l, rfl, h4, h5⟩ := h3
  refine ⟨⟨l, rfl, ?_, fun x hx => ?_⟩, (h2.ex e2).le (by omega)⟩
  · rw [h4, tl]
    omega
  · have := h5 x hx
    omega⟩
/-- a for that changes the objects at M -/
theorem gm_for {X : Cx} {k : Nat} {it tg : Expr} {env : Nv} {H : Hp} {D : Ends} {items : List PyData} {pos : Pos} {rest body : List Stmt} {own : List Addr} (M : List Addr) (P : Nat → Nv → Hp → Prop) (A : Hs X k) (hi : EvI X tg it env H items own) (hM : Has1 M H) (ho : ∀ b ∈ own, b ∉ M) (p0 : ∀ H2, Ex H H2 → P 0 env H2)
    (pe : ∀ i nv H' H'', P i nv H' → Ex H' H'' → P i nv H'')
    (turn : ∀ i d nv H', items[i]? = some d → P i nv H' → Kp M H H' → ∃ w nv2, Tgt tg d nv w nv2 ∧ (∀ q ∈ w, LocN X q.1) ∧
      ∀ H3, Ex H' H3 → P i nv H3 → Go X body nv2 H3 { D with nx := fun σ H4 => Kp M H3 H4 ∧ ∃ nv3, NvOk X H4 σ nv3 ∧ P (i + 1) nv3 H4, ct := fun σ H4 => Kp M H3 H4 ∧ ∃ nv3, NvOk X H4 σ nv3 ∧ P (i + 1) nv3 H4, bk := wB X rest D })
    (done : ∀ nv H', Kp M H H' → P items.length nv H' → Go X rest nv H' D) (hs : ∀ x, foldedSetIterable it X.env x = pure x := by intro _; rfl) : Go X (.For tg it body [] pos :: rest) env H D := by
  refine go_for A hi (fun H2 o e2 h2 => ⟨fun i nv H' => Kp M H2 H' ∧ P i nv H', ⟨Kp.refl _, p0 H2 e2⟩, fun i nv H' q => ⟨q.1.t, fun b hb => ?_⟩, fun i d nv H' hd q => ?_, fun nv H' q => done nv H' (e2.kp.trans q.1) q.2⟩) hs
  · obtain ⟨h3, u, hu⟩ := h2 b hb
    have nb : b ∉ M := by
      rcases h3 with h3 | h3
      · exact hM.fresh h3
      · exact ho b h3
    rw [hu]
    exact q.1.k _ _ nb hu
  · obtain ⟨w, nv2, T, hl, g⟩ := turn i d nv H' hd q.2 (e2.kp.trans q.1)
    refine ⟨w, nv2, T, hl, fun H3 e3 => ⟨fun σ H4 e4 ok => ?_⟩⟩
    exact wB_mono ((g H3 e3 (pe _ _ _ _ q.2 e3)).run σ H4 e4 ok) (fun σ' H' ⟨k5, nv3, ok3, p3⟩ => ⟨nv3, ok3, (q.1.trans e3.kp).trans k5, p3⟩) (fun _ _ z => z) (fun _ _ z => z) (fun σ' H' ⟨k5, nv3, ok3, p3⟩ => ⟨nv3, ok3, (q.1.trans e3.kp).trans k5, p3⟩)
end WK
/-! WKPbox -/
set_option Elab.async false
set_option linter.all false
set_option maxRecDepth 100000
set_option maxHeartbeats 1000000
/-! Drawing boxes. -/
namespace WK
open PySem PySem.Spec PyProof.Rows L2
inductive R_box : List PyData → Nat → (PyData → Prop) → Prop
  | mk (t : Int) (h : 0 ≤ t ∧ t ≤ 3) : R_box [.int t] 18 (fun d => ∃ b, d = bD b ∧ BoxOk t b)
theorem len__law_box : ∀ vs H Q E, SpP R_box vs H Q E → vs.length = (["_law_pen_here", "_law_teeth"] : List Str).length := len_P fun ds c D h => by cases h; rfl
def Drawn (m : Int) (p : Addr) (n : Nat) (d : PyData) (H : Hp) : Prop := IntB m d ∧ Pen H p n
theorem at3 {i : Int} (h1 : 0 ≤ i) (h2 : i < 3) (a b c : PyData) : atI [a, b, c] i = some a ∨ atI [a, b, c] i = some b ∨ atI [a, b, c] i = some c := by
  rcases (by omega : i = 0 ∨ i = 1 ∨ i = 2) with rfl | rfl | rfl
  · exact .inl rfl
  · exact .inr (.inl rfl)
  · exact .inr (.inr rfl)
theorem at3B {m : Int} {i : Int} (h1 : 0 ≤ i) (h2 : i < 3) {a b c : PyData} (ha : IntB m a) (hb : IntB m b) (hc : IntB m c) : ∃ x, atI [a, b, c] i = some x ∧ IntB m x := by
  rcases at3 h1 h2 a b c with e | e | e
  · exact ⟨_, e, ha⟩
  · exact ⟨_, e, hb⟩
  · exact ⟨_, e, hc⟩
theorem sc__law_box : FnScope ((["_law_pen_here", "_law_teeth"] : List Str) ++ (["_law_found", "_law_tooth", "_law_low", "_law_high"] : List Str)) ["_law_pen_here", "_law_teeth"] (defScope (top 107)) := fnScope_by (by decide +kernel)
instance : HasCal "_law_box" 2 ["_law_pen_here", "_law_teeth"] (SpP R_box) := ⟨fun P w K mg T => by
  refine Cal.mk' T (i := 107) (N := (["_law_pen_here", "_law_teeth"] : List Str) ++ (["_law_found", "_law_tooth", "_law_low", "_law_high"] : List Str)) (List.mem_of_getElem? (i := 56) rfl) (by decide +kernel) sc__law_box (fun _ _ _ _ _ _ us hl => match us, hl with | [_, _], _ => rfl) len__law_box fun X A hs hN hf vs H Q E h => ?_
  obtain ⟨p, us, ds, c, DD, n, rfl, hr, ra, pen, q⟩ := h
  cases hr with
  | mk t ht =>
  cases ra with
  | cons ra rb =>
  cases rb
  cases ra
  refine go_beginS (ss := [.v (.ref p), .d (.int t)]) hs hN (.cons rfl (.cons (.int t) .nil)) rfl (by decide +kernel) ?_
  simp only [nvS, unM]
  have tl : (rangeD t).length = t.toNat := rangeD_len t
  refine go_setL A (el_lst ea_nil) (fun _ => (.next (.next (.here)))) (locN hf hs (by decide +kernel)) fun l H0 hl e0 L0 => ?_
  have pen0 := pen.ex e0
  have npl : p ≠ l := fun z => by rw [z] at pen; exact pen.not hl
  have hM : Has1 [p, l] H0 := fun b hb => by
    rcases List.mem_cons.mp hb with rfl | hb
    · exact pen0.not
    · obtain rfl : b = l := by simpa using hb
      obtain ⟨vs, h1, _⟩ := L0
      rw [h1]
      exact fun z => by cases z
  refine gm_for [p, l] (fun i nv H' => ∃ gs : List (Int × Int), Pen H' p (n + 5 * (3 - i)) ∧ gs.length = i ∧ (∀ g ∈ gs, 0 ≤ g.1 ∧ g.1 ≤ g.2 ∧ g.2 ≤ 6) ∧ Lst H' l (gs.map gD) ∧ ∃ s1 s2 s3, nv = ([("_law_pen_here", .v (.ref p)), ("_law_teeth", .d (.int t)), ("_law_found", .v (.ref l)), ("_law_tooth", s1), ("_law_low", s2), ("_law_high", s3)] : Nv)) A (ei_range A hs (by decide +kernel) (ed_var (.next (.here)) hs (by decide +kernel)) (by first | omega | decide)) hM (fun b hb => by cases hb) (fun H2 e2 => ⟨[], (pen0.ex e2).le (by omega), rfl, (fun g hg => by cases hg), L0.ex e2, _, _, _, rfl⟩) ?_ ?_ ?_
  · rintro i nv H' H'' ⟨gs, h1, h2, h3, h4, h5⟩ e
    exact ⟨gs, h1.ex e, h2, h3, h4.ex e, h5⟩
  · rintro i d nv H' hd ⟨gs, _, hgl, hgs, _, s1, s2, s3, rfl⟩ k1
    have hi := lt_of_get hd
    rw [tl] at hi
    refine ⟨_, _, .name (.next (.next (.next (.here)))), fun q hq => locN hf hs (by simp at hq; rcases hq with rfl; decide +kernel), ?_⟩
    rintro H3 e3 ⟨gs', pen1, hgl', hgs', L1, _⟩
    obtain ⟨m, hm⟩ : ∃ m, m = n + 5 * (3 - (i + 1)) := ⟨_, rfl⟩
    have pen1 : Pen H3 p (m + 5) := pen1.le (by omega)
    have M1 : p ∈ [p] := List.mem_singleton.mpr rfl
    refine gm_set (M := [p]) A (em_ixL (J := Drawn 7 p (m + 3)) pen1.has (am_cons (em_d ed_int fun Ha ea _ => am_cons (em_d ed_int fun Hb eb _ => am_cons (em_draw A hs (ev_var .here hs (by decide +kernel)) ed_int (by decide) ((pen1.ex (ea.trans eb)).le (by omega) : Pen Hb p ((m + 4) + 1)) M1 fun i1 Hc kc pc g1 g2 _ => am_nil fun Hd ed0 _ _ _ _ => ⟨by show 3 ≤ 1000; decide, fun He ee => em_draw A hs (ev_var .here hs (by decide +kernel)) ed_int (by decide) (((pc.ex ed0).ex ee).le (by omega) : Pen He p ((m + 3) + 1)) M1 fun i2 Hf kf pf f1 f2 _ => ?_⟩))))) (fun _ => (.next (.next (.next (.next (.here)))))) (locN hf hs (by decide +kernel)) fun dl H4 k4 hdl => ?_
    · obtain ⟨x, hx, hB⟩ := at3B (m := 7) f1 f2 ⟨0, rfl, by decide, by decide⟩ ⟨0, rfl, by decide, by decide⟩ ⟨i1, rfl, g1, g2⟩
      exact ⟨i2, x, rfl, hx, hB, pf⟩
    obtain ⟨⟨lo, rfl, lo1, lo2⟩, pen4⟩ := hdl
    refine gm_set (M := [p]) A (em_ixL (J := Drawn 7 p m) pen4.has (am_cons (em_d ed_int fun Ha ea _ => am_cons (em_sub (em_d ed_int fun Hb eb _ => em_draw A hs (ev_var .here hs (by decide +kernel)) ed_int (by decide) ((pen4.ex (ea.trans eb)).le (by omega) : Pen Hb p ((m + 2) + 1)) M1 fun i0 Hb0 kb0 pb0 b1 b2 _ => ⟨6, i0, rfl, rfl, fun _ => am_cons (em_draw A hs (ev_var .here hs (by decide +kernel)) ed_int (by decide) (pb0.le (by omega) : Pen Hb0 p ((m + 1) + 1)) M1 fun i1 Hc kc pc g1 g2 _ => am_nil fun Hd ed0 _ _ _ _ => ⟨by show 3 ≤ 1000; decide, fun He ee => em_draw A hs (ev_var .here hs (by decide +kernel)) ed_int (by decide) (((pc.ex ed0).ex ee).le (by omega) : Pen He p (m + 1)) M1 fun i2 Hf kf pf f1 f2 _ => ?_⟩)⟩))))) (fun _ => (.next (.next (.next (.next (.next (.here))))))) (locN hf hs (by decide +kernel)) fun dl H5 k5 hdl => ?_
    · obtain ⟨x, hx, hB⟩ := at3B (m := 7) f1 f2 ⟨6, rfl, by decide, by decide⟩ ⟨6 - i0, rfl, by omega, by omega⟩ ⟨i1, rfl, g1, g2⟩
      exact ⟨i2, x, rfl, hx, hB, pf⟩
    obtain ⟨⟨hi', rfl, hi1, hi2⟩, pen5⟩ := hdl
    have nl : l ∉ [p] := not1 fun z => npl z.symm
    have L5 := k5.lst (k4.lst L1 nl) nl
    refine go_app (ev_var (.next (.next (.here))) hs (by decide +kernel)) L5 (ed_tup (ea_cons (ed_min A hs (ed_var (.next (.next (.next (.next (.here))))) hs (by decide +kernel)) (ed_var (.next (.next (.next (.next (.next (.here)))))) hs (by decide +kernel))) (ea_cons (ed_max A hs (ed_var (.next (.next (.next (.next (.here))))) hs (by decide +kernel)) (ed_var (.next (.next (.next (.next (.next (.here)))))) hs (by decide +kernel))) ea_nil))) (by rw [List.length_map]; omega) fun H6 x6 L6 => ?_
    have k6 := x6.kp L5 ⟨_, L6⟩
    have kk : Kp [p, l] H3 H6 := ((k4.trans k5).sub (fun b hb => List.mem_cons.mpr (.inl (by simpa using hb)))).trans (k6.sub fun b hb => List.mem_cons_of_mem _ hb)
    refine go_nil fun σ H7 e7 ok7 => ⟨kk.trans e7.kp, _, ok7, gs' ++ [(min lo hi', max lo hi')], ?_, by simp [hgl'], fun g hg => ?_, ?_, _, _, _, rfl⟩
    · rw [← hm]
      exact (pen5.kp k6 (not1 npl)).ex e7
    · rcases List.mem_append.mp hg with z | z
      · exact hgs' g z
      · obtain rfl : g = (min lo hi', max lo hi') := by simpa using z
        show 0 ≤ min lo hi' ∧ min lo hi' ≤ max lo hi' ∧ max lo hi' ≤ 6
        omega
    · rw [List.map_append]
      exact L6.ex e7
  · rintro nv H' k1 ⟨gs, pen1, hgl, hgs, L1, s1, s2, s3, rfl⟩
    refine go_ret (ed_tupL A hs (EvV.r (ev_var (.next (.next (.here))) hs (by decide +kernel)) L1)) fun v H2 e2 r => q v (bD gs) H2 ?_ ((pen1.ex e2).le (by omega)) ⟨gs, rfl, ?_, hgs⟩ r
    · refine ⟨(e0.t.trans k1.t).trans e2.t, fun b o n z => e2 _ _ (k1.k b o (fun w => ?_) (e0 _ _ z)), fun b z => e0.back (k1.s b (e2.back z))⟩
      rcases List.mem_cons.mp w with w | w
      · exact n (by rw [w]; exact List.mem_singleton.mpr rfl)
      · obtain rfl : b = l := by simpa using w
        rw [hl] at z
        cases z
    · rw [tl] at hgl
      omega⟩
end WK
/-! WKPick -/
set_option Elab.async false
set_option linter.all false
set_option maxRecDepth 100000
set_option maxHeartbeats 1000000
/-! Picking, stands. -/
namespace WK
open PySem PySem.Spec PyProof.Rows L2
theorem kp_drop {H H0 H' : Hp} {p l : Addr} (e0 : Ex H H0) (k1 : Kp [p, l] H0 H') (hl : H l = none) : Kp [p] H H' := by
  refine ⟨e0.t.trans k1.t, fun b o n z => k1.k b o (fun w => ?_) (e0 _ _ z), fun b z => e0.back (k1.s b z)⟩
  rcases List.mem_cons.mp w with w | w
  · exact n (by rw [w]; exact List.mem_singleton.mpr rfl)
  · obtain rfl : b = l := by simpa using w
    rw [hl] at z
    cases z
section
variable {X : Cx} {k : Nat} {M : List Addr} {e a b : Expr} {env : Nv} {H : Hp} {ds : List PyData} {pos p : Pos} {sc : Scope} {J : PyData → Hp → Prop} {l pn : Addr} {n : Nat}
theorem em_ix (h : EvM X M a env H fun d H1 => Kp M H H1 → ∃ ds, d = .tuple ds ∧ EvM X M b env H1 fun d2 H2 => Kp M H1 H2 → ∃ i x, d2 = .int i ∧ atI ds i = some x ∧ J x H2) (hp : PlainIx b := by intro _ _; rfl) : EvM X M (.Subscript a b pos) env H J := ⟨fun σ H1 e0 ok Q q =>
  ⟨_, pe_ix ix_tup pe_w pe_w hp, h.run σ H1 e0 ok _ fun v d H2 k2 jj r => by
    obtain ⟨ds, e1, hb⟩ := jj (e0.kp.trans k2)
    subst e1
    refine hb.run σ H2 (Ex.refl _) (ok.mono k2.t) _ fun u d2 H3 k3 j3 r3 => ?_
    obtain ⟨i, x, e2, e3, q2⟩ := j3 k3
    subst e2
    cases r3
    cases r with
    | tup h1 q1 =>
    obtain ⟨w', e4, r4⟩ := atI_rp (q1.mono k3.t) e3
    exact ⟨_, _, i, w', rfl, rfl, SqT.of (k3.t _ _ h1), e4, q _ _ H3 (k2.trans k3) q2 r4⟩⟩⟩
theorem em_ixV (hv : EvV X a env H (.ref l)) (hl : Lst H l ds) (nl : l ∉ M) (h : ∀ H1, Ex H H1 → EvM X M b env H1 fun d2 H2 => Kp M H1 H2 → ∃ i x, d2 = .int i ∧ atI ds i = some x ∧ J x H2) (hp : PlainIx b := by intro _ _; rfl) : EvM X M (.Subscript a b pos) env H J := ⟨fun σ H1 e0 ok Q q =>
  ⟨_, pe_ix ix_list pe_w pe_w hp, hv.run σ H1 e0 ok _ fun H2 e2 => by
    refine (h H2 (e0.trans e2)).run σ H2 (Ex.refl _) (ok.mono e2.t) _ fun u d2 H3 k3 j3 r3 => ?_
    obtain ⟨i, x, e1, e3, q2⟩ := j3 k3
    subst e1
    cases r3
    obtain ⟨vs, h1, q1⟩ := k3.lst (hl.ex (e0.trans e2)) nl
    obtain ⟨w', e4, r4⟩ := atI_rp q1 e3
    exact ⟨_, _, i, w', rfl, rfl, SqL.of h1, e4, q _ _ H3 (e2.kp.trans k3) q2 r4⟩⟩⟩
end
/-- a list or a tuple of ds, l none of the pen -/
def Seq (H : Hp) (p : Addr) (v : V) (ds : List PyData) : Prop := Rp H v (.tuple ds) ∨ ∃ l, v = .ref l ∧ l ≠ p ∧ Lst H l ds
def SpPick : Sp := fun vs H Q _ => ∃ p v ds n, vs = [V.ref p, v] ∧ Seq H p v ds ∧ 1 ≤ ds.length ∧ ds.length ≤ 1000 ∧ Pen H p (n + 1) ∧ ∀ w d H', Kp [p] H H' → Pen H' p n → d ∈ ds → Rp H' w d → Q w H'
theorem len__law_pick : ∀ vs H Q E, SpPick vs H Q E → vs.length = (["_law_pen_here", "_law_some"] : List Str).length := fun vs H Q E ⟨_, _, _, _, e, _⟩ => by rw [e]; rfl
theorem atI_mem {ds : List PyData} {i : Int} (h1 : 0 ≤ i) (h2 : i < ds.length) : ∃ x, atI ds i = some x ∧ x ∈ ds := by
  obtain ⟨n, rfl⟩ := Int.eq_ofNat_of_zero_le h1
  have hn : n < ds.length := by omega
  refine ⟨ds[n], ?_, List.getElem_mem hn⟩
  unfold atI
  rw [ixN_ofNat hn]
  exact List.getElem?_eq_getElem hn
theorem sc__law_pick : FnScope ((["_law_pen_here", "_law_some"] : List Str) ++ ([] : List Str)) ["_law_pen_here", "_law_some"] (defScope (top 102)) := fnScope_by (by decide +kernel)
instance : HasCal "_law_pick" 2 ["_law_pen_here", "_law_some"] SpPick := ⟨fun P w K mg T => by
  refine Cal.mk' T (i := 102) (N := (["_law_pen_here", "_law_some"] : List Str) ++ ([] : List Str)) (List.mem_of_getElem? (i := 51) rfl) (by decide +kernel) sc__law_pick (fun _ _ _ _ _ _ us hl => match us, hl with | [_, _], _ => rfl) len__law_pick fun X A hs hN hf vs H Q E h => ?_
  obtain ⟨p, v, ds, n, rfl, hseq, hl1, hl2, pen, q⟩ := h
  have M1 : p ∈ [p] := List.mem_singleton.mpr rfl
  rcases hseq with hr | ⟨l, rfl, hlp, hl⟩
  · refine go_beginS (ss := [.v (.ref p), .d (.tuple ds)]) hs hN (.cons rfl (.cons hr .nil)) rfl (by decide +kernel) ?_
    simp only [nvS, unM]
    refine gm_ret (M := [p]) (em_ix (J := fun d H' => d ∈ ds ∧ Pen H' p n) (em_d (ed_var (.next (.here)) hs (by decide +kernel)) fun H1 e1 _ => ⟨ds, rfl, em_draw A hs (ev_var .here hs (by decide +kernel)) (ed_len A hs (ed_var (.next (.here)) hs (by decide +kernel))) (by omega) (pen.ex e1) M1 fun i H2 k2 p2 h1 h2 _ => ?_⟩)) fun w d H' k1 hj r => q w d H' k1 hj.2 hj.1 r
    obtain ⟨x, hx, hm⟩ := atI_mem h1 h2
    exact ⟨i, x, rfl, hx, hm, p2⟩
  · refine go_beginS (ss := [.v (.ref p), .v (.ref l)]) hs hN (.cons rfl (.cons rfl .nil)) rfl (by decide +kernel) ?_
    simp only [nvS, unM]
    refine gm_ret (M := [p]) (em_ixV (J := fun d H' => d ∈ ds ∧ Pen H' p n) (ev_var (.next (.here)) hs (by decide +kernel)) hl (not1 hlp) fun H1 e1 => em_draw A hs (ev_var .here hs (by decide +kernel)) (ed_lenL A hs (EvV.r (ev_var (.next (.here)) hs (by decide +kernel)) (hl.ex e1))) (by omega) (pen.ex e1) M1 fun i H2 k2 p2 h1 h2 _ => ?_) fun w d H' k1 hj r => q w d H' k1 hj.2 hj.1 r
    obtain ⟨x, hx, hm⟩ := atI_mem h1 h2
    exact ⟨i, x, rfl, hx, hm, p2⟩⟩
/-! a stand -/
inductive R_stand : List PyData → Nat → (PyData → Prop) → Prop
  | mk (h : Ho) (t : 1 ≤ h.teeth ∧ h.teeth ≤ 3) (hh : 1 ≤ h.halls ∧ h.halls ≤ 6) : R_stand [hoD h] 4 (fun d => ∃ hall key, d = standD hall key ∧ HallOk h hall ∧ KeyOk h.teeth key)
theorem len__law_stand : ∀ vs H Q E, SpP R_stand vs H Q E → vs.length = (["_law_pen_here", "_law_house_here"] : List Str).length := len_P fun ds c D h => by cases h; rfl
theorem sc__law_stand : FnScope ((["_law_pen_here", "_law_house_here"] : List Str) ++ ([] : List Str)) ["_law_pen_here", "_law_house_here"] (defScope (top 109)) := fnScope_by (by decide +kernel)
instance : HasCal "_law_stand" 3 ["_law_pen_here", "_law_house_here"] (SpP R_stand) := ⟨fun P w K mg T => by
  refine Cal.mk' T (i := 109) (N := (["_law_pen_here", "_law_house_here"] : List Str) ++ ([] : List Str)) (List.mem_of_getElem? (i := 58) rfl) (by decide +kernel) sc__law_stand (fun _ _ _ _ _ _ us hl => match us, hl with | [_, _], _ => rfl) len__law_stand fun X A hs hN hf vs H Q E h => ?_
  obtain ⟨p, us, ds, c, DD, n, rfl, hr, ra, pen, q⟩ := h
  cases hr with
  | mk h ht hh =>
  cases ra with
  | cons ra rb =>
  cases rb
  have M1 : p ∈ [p] := List.mem_singleton.mpr rfl
  refine go_beginS (ss := [.v (.ref p), .d (hoD h)]) hs hN (.cons rfl (.cons ra .nil)) rfl (by decide +kernel) ?_
  simp only [nvS, unM]
  refine gm_ret (M := [p]) (em_tup (J := fun d H' => (∃ hall key, d = standD hall key ∧ HallOk h hall ∧ KeyOk h.teeth key) ∧ Pen H' p n) (am_cons (em_draw A hs (ev_var .here hs (by decide +kernel)) (ed_ix (ed_var (.next (.here)) hs (by decide +kernel)) ed_int (by first | rfl | assumption | decide +kernel)) (by omega) (pen : Pen H p ((n + 3) + 1)) M1 fun i H1 k1 p1 h1 h2 _ => am_cons (em_pc (n := "_law_key") A hs (ev_var .here hs (by decide +kernel)) (ea_cons (ed_ix (ed_var (.next (.here)) hs (by decide +kernel)) ed_int (by first | rfl | assumption | decide +kernel)) ea_nil) (R_key.mk h.teeth (by omega)) p1 M1 fun d H2 k2 p2 hd _ => am_nil fun H3 e3 _ _ _ => ⟨by show 2 ≤ 1000; decide, fun H4 e4 => ?_⟩)))) fun v d H' k1 hj r => q v d H' k1 hj.2 hj.1 r
  obtain ⟨key, rfl, hk⟩ := hd
  exact ⟨⟨i, key, rfl, ⟨h1, by omega⟩, hk⟩, (p2.ex e3).ex e4⟩⟩
end WK
/-! WKPar3 -/
set_option Elab.async false
set_option linter.all false
set_option maxRecDepth 100000
set_option maxHeartbeats 1000000
/-! x, y, z = a, b, c, and x, y = a, [..] -/
namespace WK
open PySem PySem.Spec PyProof.Rows L2
def swB3 (sc : Scope) (n m o : Str) (px py pz : Pos) (a b c : Expr) : Bool :=
  fnKind sc && decide (sc.names.lookup n = some .local) && decide (sc.names.lookup m = some .local) && decide (sc.names.lookup o = some .local) && decide (py.line = px.line) && decide (pz.line = px.line) && decide (n ≠ m) && decide (n ≠ o) && decide (m ≠ o) && plainE a && plainE b && plainE c && !([a, b, c].all (foldedForSure 8)) && !([a, b, c].all (constantsAlone 8))
theorem sw_of3 {X : Cx} {sc : Scope} {n m o : Str} {px py pz pt pt2 : Pos} {a b c : Expr} {kt k2 : Nat} (hs : X.env.scope = sc) (h : swB3 sc n m o px py pz a b c = true) : swappedStores [.Tuple [.Name n px, .Name m py, .Name o pz] kt pt] (.Tuple [a, b, c] k2 pt2) X.env = Pure.pure (some [n, m, o]) := by
  unfold swB3 at h
  simp only [Bool.and_eq_true, Bool.not_eq_true', decide_eq_true_eq] at h
  obtain ⟨⟨⟨⟨⟨⟨⟨⟨⟨⟨⟨⟨⟨h1, h2⟩, h3⟩, h4⟩, h5⟩, h6⟩, h7⟩, h8⟩, h9⟩, h10⟩, h11⟩, h12⟩, h13⟩, h14⟩ := h
  have hk : sc.kind = .function := by
    unfold fnKind at h1
    split at h1
    · assumption
    · cases h1
  have hb : X.env.blockKind = .function := by
    unfold Env.blockKind
    rw [hs, hk]
    rfl
  have k1 : X.env.kindOf n = some .local := by
    unfold Env.kindOf
    rw [hs]
    exact h2
  have k2 : X.env.kindOf m = some .local := by
    unfold Env.kindOf
    rw [hs]
    exact h3
  have k3 : X.env.kindOf o = some .local := by
    unfold Env.kindOf
    rw [hs]
    exact h4
  have e1 : ([n, m, o] : List Str).eraseDups = [n, m, o] := by
    simp [List.eraseDups_cons, h7.symm, h8.symm, h9.symm, List.filter_cons]
  unfold swappedStores
  simp only [hb, k1, k2, k3, h5, h6, h13, h14, e1, List.filterMap_cons, List.filterMap_nil, List.head?_cons, Option.map_some, Option.getD_some, Expr.pos, pure_bind]
  simp [h5, h6]
  rw [if_neg (by
    rintro (h | h | h)
    · rw [nostar h] at h10
      cases h10
    · rw [nostar h] at h11
      cases h11
    · rw [nostar h] at h12
      cases h12), e1]
  rfl
section
variable {X : Cx} {k : Nat} {M : List Addr} {a b c : Expr} {env : Nv} {H : Hp} {D : Ends} {pos : Pos} {sc : Scope} {rest : List Stmt} {J3 : PyData → PyData → PyData → Hp → Prop} {J2 : PyData → PyData → Hp → Prop}
theorem gm_par3 {i j l : Nat} {n m o : Str} {px py pz pt : Pos} {kt k2 : Nat} {pt2 : Pos} {env1 : PyData → Nv} {env2 : PyData → PyData → Nv} {env3 : PyData → PyData → PyData → Nv} (A : Hs X k) (hs : X.env.scope = sc) (ha : AvM X M [a, b, c] env H fun ds H1 => ∃ x y z, ds = [x, y, z] ∧ J3 x y z H1) (h1 : ∀ x, Put env i n (.d x) (env1 x)) (h2 : ∀ x y, Put (env1 x) j m (.d y) (env2 x y)) (h3 : ∀ x y z, Put (env2 x y) l o (.d z) (env3 x y z))
    (hij : i ≠ j) (hil : i ≠ l) (hjl : j ≠ l) (sw : swB3 sc n m o px py pz a b c = true) (v1 : visB sc n = true) (v2 : visB sc m = true) (v3 : visB sc o = true)
    (q : ∀ x y z H1, Kp M H H1 → J3 x y z H1 → Go X rest (env3 x y z) H1 D)
    (hs2 : swapsWithSole [.Tuple [.Name n px, .Name m py, .Name o pz] kt pt] (.Tuple [a, b, c] k2 pt2) pos.line X.env = pure false := by rfl) :
    Go X (.Assign [.Tuple [.Name n px, .Name m py, .Name o pz] kt pt] (.Tuple [a, b, c] k2 pt2) pos :: rest) env H D := ⟨fun σ H1 e0 ok => by
  have hw := sw_of3 (kt := kt) (pt := pt) (k2 := k2) (pt2 := pt2) hs sw
  have sw' := sw
  unfold swB3 at sw'
  simp only [Bool.and_eq_true, Bool.not_eq_true', decide_eq_true_eq] at sw'
  obtain ⟨⟨⟨⟨⟨⟨⟨⟨⟨⟨⟨⟨⟨_, l1⟩, l2⟩, l3⟩, _⟩, _⟩, _⟩, _⟩, _⟩, hp1⟩, hp2⟩, hp3⟩, _⟩, _⟩ := sw'
  subst hs
  have nm := (h1 .none).name
  have nm2 := (h2 .none .none).name
  have nm3 := (h3 .none .none .none).name
  refine ⟨_, pss_cons (ps_par3 A.calm A.nd (by rw [ok.names]; exact nm.1) (by rw [ok.names, ← nm.2]; exact nm2.1) (by rw [ok.names, ← nm.2, ← nm2.2]; exact nm3.1) hij hil hjl l1 l2 l3 pa_w hw hs2) pb_w, ha.run σ H1 e0 ok _ fun vs ds H2 k2 j r => ?_⟩
  obtain ⟨x, y, z, rfl, j⟩ := j
  cases r with
  | cons r1 r =>
  cases r with
  | cons r2 r =>
  cases r with
  | cons r3 r =>
  cases r
  exact ⟨_, _, _, rfl, (q x y z H2 (e0.kp.trans k2) j).run _ H2 (Ex.refl _) ((((ok.mono k2.t).put (h1 x) r1 (visN v1).vis).put (h2 x y) r2 (visN v2).vis).put (h3 x y z) r3 (visN v3).vis)⟩⟩
theorem gm_par2 {i j : Nat} {n m : Str} {px py pt : Pos} {kt k2 : Nat} {pt2 : Pos} {env1 : PyData → Nv} {env2 : PyData → PyData → Nv} (A : Hs X k) (hs : X.env.scope = sc) (ha : AvM X M [a, b] env H fun ds H1 => ∃ x y, ds = [x, y] ∧ J2 x y H1) (h1 : ∀ x, Put env i n (.d x) (env1 x)) (h2 : ∀ x y, Put (env1 x) j m (.d y) (env2 x y))
    (hij : i ≠ j) (sw : swB2 sc n m px py a b = true) (v1 : visB sc n = true) (v2 : visB sc m = true) (q : ∀ x y H1, Kp M H H1 → J2 x y H1 → Go X rest (env2 x y) H1 D) :
    Go X (.Assign [.Tuple [.Name n px, .Name m py] kt pt] (.Tuple [a, b] k2 pt2) pos :: rest) env H D := ⟨fun σ H1 e0 ok => by
  have hw := sw_of2 (kt := kt) (pt := pt) (k2 := k2) (pt2 := pt2) hs sw
  have sw' := sw
  unfold swB2 at sw'
  simp only [Bool.and_eq_true, Bool.not_eq_true', decide_eq_true_eq] at sw'
  obtain ⟨⟨⟨⟨⟨⟨⟨⟨_, l1⟩, l2⟩, _⟩, _⟩, hp1⟩, hp2⟩, _⟩, _⟩ := sw'
  subst hs
  have nm := (h1 .none).name
  have nm2 := (h2 .none .none).name
  refine ⟨_, pss_cons (ps_par A.calm A.nd (by rw [ok.names]; exact nm.1) (by rw [ok.names, ← nm.2]; exact nm2.1) hij l1 l2 pa_w hw) pb_w, ha.run σ H1 e0 ok _ fun vs ds H2 k2 j r => ?_⟩
  obtain ⟨x, y, rfl, j⟩ := j
  cases r with
  | cons r1 r =>
  cases r with
  | cons r2 r =>
  cases r
  exact ⟨_, _, rfl, (q x y H2 (e0.kp.trans k2) j).run _ H2 (Ex.refl _) (((ok.mono k2.t).put (h1 x) r1 (visN v1).vis).put (h2 x y) r2 (visN v2).vis)⟩⟩
/-- x, y = a, [..] -/
theorem gm_parDL {i j : Nat} {n m : Str} {px py pt : Pos} {kt k2 : Nat} {pt2 : Pos} {env1 : PyData → Nv} {env2 : PyData → Addr → Nv} {J : PyData → Hp → Prop} {ds : List PyData} (A : Hs X k) (hs : X.env.scope = sc) (ha : EvM X M a env H J) (hb : ∀ H1, Kp M H H1 → EvL X b env H1 ds) (h1 : ∀ x, Put env i n (.d x) (env1 x)) (h2 : ∀ x l, Put (env1 x) j m (.v (.ref l)) (env2 x l))
    (hij : i ≠ j) (sw : swB2 sc n m px py a b = true) (v1 : visB sc n = true) (v2 : visB sc m = true) (q : ∀ x l H1 H2, Kp M H H1 → J x H1 → Ex H1 H2 → H1 l = none → Lst H2 l ds → Go X rest (env2 x l) H2 D) :
    Go X (.Assign [.Tuple [.Name n px, .Name m py] kt pt] (.Tuple [a, b] k2 pt2) pos :: rest) env H D := ⟨fun σ H1 e0 ok => by
  have hw := sw_of2 (kt := kt) (pt := pt) (k2 := k2) (pt2 := pt2) hs sw
  have sw' := sw
  unfold swB2 at sw'
  simp only [Bool.and_eq_true, Bool.not_eq_true', decide_eq_true_eq] at sw'
  obtain ⟨⟨⟨⟨⟨⟨⟨⟨_, l1⟩, l2⟩, _⟩, _⟩, hp1⟩, hp2⟩, _⟩, _⟩ := sw'
  subst hs
  have nm := (h1 .none).name
  have nm2 := (h2 .none 0).name
  refine ⟨_, pss_cons (ps_par A.calm A.nd (by rw [ok.names]; exact nm.1) (by rw [ok.names, ← nm.2]; exact nm2.1) hij l1 l2 (pa_cons pe_w (pa_cons pe_w pa_nil (star_of hp2)) (star_of hp1)) hw) pb_w, ha.run σ H1 e0 ok _ fun v x H2 k2 j r => (hb H2 (e0.kp.trans k2)).run σ H2 (Ex.refl _) (ok.mono k2.t) _ fun l H3 n3 e3 r3 => ?_⟩
  exact ⟨_, _, rfl, (q x l H2 H3 (e0.kp.trans k2) j e3 n3 r3).run _ H3 (Ex.refl _) (((ok.mono (k2.t.trans e3.t)).put (h1 x) (r.mono e3.t) (visN v1).vis).put (h2 x l) rfl (visN v2).vis)⟩⟩
end
end WK
/-! WKHse -/
set_option Elab.async false
set_option linter.all false
set_option maxRecDepth 100000
set_option maxHeartbeats 1000000
/-! Drawing houses. -/
namespace WK
open PySem PySem.Spec PyProof.Rows L2
theorem rising_snoc {ds : List PyData} {x : PyData} (h : Rising ds) (hx : ∀ z ∈ ds, ltD z x = some true) : Rising (ds ++ [x]) := fun i a b ha hb => by
  rcases Nat.lt_or_ge (i + 1) ds.length with l | l
  · rw [List.getElem?_append_left (by omega)] at ha
    rw [List.getElem?_append_left l] at hb
    exact h i a b ha hb
  · rw [List.getElem?_append_right l] at hb
    rcases Nat.lt_or_ge i ds.length with l2 | l2
    · rw [List.getElem?_append_left l2] at ha
      have e : i + 1 - ds.length = 0 := by omega
      rw [e] at hb
      obtain rfl : x = b := by simpa using hb
      exact hx a (List.mem_of_getElem? ha)
    · have e : i + 1 - ds.length = (i - ds.length) + 1 := by omega
      rw [e] at hb
      simp at hb
theorem at4 {i : Int} (h1 : 0 ≤ i) (h2 : i < 4) : atI ([.int 0, .int 1, .int 2, .int 3] : List PyData) i = some (.int i) := by
  rcases (by omega : i = 0 ∨ i = 1 ∨ i = 2 ∨ i = 3) with rfl | rfl | rfl | rfl <;> rfl
theorem at5 {i : Int} (h1 : 0 ≤ i) (h2 : i < 5) : ∃ t : Int, atI ([.int 1, .int 2, .int 2, .int 2, .int 3] : List PyData) i = some (PyData.int t) ∧ 1 ≤ t ∧ t ≤ 3 := by
  rcases (by omega : i = 0 ∨ i = 1 ∨ i = 2 ∨ i = 3 ∨ i = 4) with rfl | rfl | rfl | rfl | rfl
  · exact ⟨1, rfl, by decide, by decide⟩
  · exact ⟨2, rfl, by decide, by decide⟩
  · exact ⟨2, rfl, by decide, by decide⟩
  · exact ⟨2, rfl, by decide, by decide⟩
  · exact ⟨3, rfl, by decide, by decide⟩
theorem sw_none3 {X : Cx} {sc : Scope} {n m o : Str} {px py pz pt pt2 : Pos} {a b c : Expr} {kt k2 : Nat} (hs : X.env.scope = sc) (h : decide (sc.names.lookup n = some .local) = false) : swappedStores [.Tuple [.Name n px, .Name m py, .Name o pz] kt pt] (.Tuple [a, b, c] k2 pt2) X.env = Pure.pure none := by
  have h := of_decide_eq_false h
  have k1 : (X.env.kindOf n == some .local) = false := by
    unfold Env.kindOf
    rw [hs]
    cases e : (sc.names.lookup n == some NameKind.local) with
    | true => exact absurd (eq_of_beq e) h
    | false => rfl
  unfold swappedStores
  simp only [pure_bind]
  split
  · rfl
  · split
    · rfl
    · rw [if_pos]
      rw [Bool.or_eq_true]
      · refine .inl (bne_iff_ne.mpr ?_)
        rw [List.filterMap_cons_none (by simp only [k1, Bool.false_and]; rfl)]
        intro e
        exact absurd (Nat.le_trans (Nat.le_of_eq e.symm) (List.length_filterMap_le _ _)) (by show ¬ 3 ≤ 2; decide)
theorem tm_and2 {X : Cx} {M : List Addr} {a b : Expr} {env : Nv} {H : Hp} {pos : Pos} {JB : Bool → Hp → Prop} (ha : TvM X M a env H fun b1 H1 => Kp M H H1 → if b1 = true then TvM X M b env H1 JB else JB false H1) : TvM X M (.BoolOp .And [a, b] pos) env H JB := ⟨fun σ H1 e0 ok Q q =>
  ⟨_, (pw_and pt_w (pw_and1 pt_w)).pt, ha.run σ H1 e0 ok _ fun b1 H2 k2 j => by
    have j := j (e0.kp.trans k2)
    cases b1 with
    | true =>
      rw [if_pos rfl] at j ⊢
      exact j.run σ H2 (Ex.refl _) (ok.mono k2.t) _ fun b H3 k3 j3 => q b H3 (k2.trans k3) j3
    | false =>
      rw [if_neg (by decide)] at j ⊢
      exact q false H2 k2 j⟩⟩
structure DoorsAt (t a l : Int) (i : Nat) (ds : List Door) : Prop where
  ok : ∀ d ∈ ds, DoorOk t a l d
  pl : ∀ d ∈ ds, ∃ k : Int, 0 ≤ k ∧ k < i ∧ d.hall = k / l ∧ d.letter = k % l
  ri : Rising (ds.map fun d => .tuple [.int d.hall, .int d.letter])
  n : ds.length ≤ 10
theorem lexLt2 {a b c d : Int} (h : a < c ∨ (a = c ∧ b < d)) : HT.lexLt [a, b] [c, d] = true := by
  rcases h with h | ⟨rfl, h⟩
  · simp [HT.lexLt, h]
    omega
  · simp [HT.lexLt, h]
    omega
theorem DoorsAt.le {t a l : Int} {i : Nat} {ds : List Door} (h : DoorsAt t a l i ds) : DoorsAt t a l (i + 1) ds := ⟨h.ok, fun d hd => by
  obtain ⟨k, h1, h2, h3⟩ := h.pl d hd
  exact ⟨k, h1, by omega, h3⟩, h.ri, h.n⟩
theorem DoorsAt.snoc {t a l : Int} {i : Nat} {ds : List Door} (h : DoorsAt t a l i ds) (hl : 1 ≤ l) (hi : (i : Int) < a * l) (hn : ds.length < 10) {to : Int} (h1 : 0 ≤ to) (h2 : to < a) {b : List (Int × Int)} (hb : BoxOk t b) : DoorsAt t a l (i + 1) (ds ++ [⟨(i : Int) / l, (i : Int) % l, to, b⟩]) := by
  have q1 := Int.ediv_nonneg (Int.natCast_nonneg i) (by omega : 0 ≤ l)
  have q2 : (i : Int) / l < a := Int.ediv_lt_of_lt_mul (by omega) hi
  have q3 := modB (i : Int) (m := l) (by omega)
  refine ⟨fun d hd => ?_, fun d hd => ?_, ?_, by simp; omega⟩
  · rcases List.mem_append.mp hd with z | z
    · exact h.ok d z
    · obtain rfl : d = ⟨(i : Int) / l, (i : Int) % l, to, b⟩ := by simpa using z
      exact ⟨⟨q1, by show (i : Int) / l ≤ a - 1; omega⟩, ⟨q3.1, by show (i : Int) % l ≤ l - 1; omega⟩, ⟨h1, by show to ≤ a - 1; omega⟩, hb⟩
  · rcases List.mem_append.mp hd with z | z
    · obtain ⟨k, g1, g2, g3⟩ := h.pl d z
      exact ⟨k, g1, by omega, g3⟩
    · obtain rfl : d = ⟨(i : Int) / l, (i : Int) % l, to, b⟩ := by simpa using z
      exact ⟨i, by omega, by omega, rfl, rfl⟩
  · rw [List.map_append]
    refine rising_snoc h.ri fun z hz => ?_
    obtain ⟨d, hd, rfl⟩ := List.mem_map.mp hz
    obtain ⟨k, g1, g2, g3, g4⟩ := h.pl d hd
    show some (HT.lexLt [d.hall, d.letter] [(i : Int) / l, (i : Int) % l]) = some true
    rw [g3, g4]
    refine congrArg some (lexLt2 ?_)
    have e1 : k / l ≤ (i : Int) / l := Int.ediv_le_ediv (by omega) (by omega)
    rcases Int.lt_or_eq_of_le e1 with e2 | e2
    · exact .inl e2
    · refine .inr ⟨e2, ?_⟩
      have d1 := Int.mul_ediv_add_emod k l
      have d2 := Int.mul_ediv_add_emod (i : Int) l
      rw [e2] at d1
      omega
/-- l.append(e) -/
theorem gm_app {X : Cx} {M : List Addr} {nm e : Expr} {env : Nv} {H : Hp} {D : Ends} {rest : List Stmt} {pos ap cp : Pos} {l : Addr} {ds : List PyData} {J : PyData → Hp → Prop} (hv : EvV X nm env H (.ref l)) (hl : Lst H l ds) (nl : l ∉ M) (hd : ∀ H1, Ex H H1 → EvM X M e env H1 J) (hn : ds.length ≤ 100000) (q : ∀ d H1 H2, Kp M H H1 → J d H1 → Kp [l] H1 H2 → Lst H2 l (ds ++ [d]) → Go X rest env H2 D) (hp : plainE e = true := by rfl)
    (hbase : attributeBase nm "append" X.env (eval nm X.env) = eval nm X.env := by rfl) (hline : (ap.endLine == cp.line) = true := by rfl) (hs : swapsWith (.Call (.Attribute nm "append" ap) [e] [] cp) none pos.line X.env = pure false := by rfl) :
    Go X (.Expr (.Call (.Attribute nm "append" ap) [e] [] cp) pos :: rest) env H D := ⟨fun σ H1 e0 ok => by
  refine ⟨_, pss_cons (ps_expr (pe_bm PySem.F.plainAttrs_list PySem.F.slot_list_append PySem.F.type_list_append mt_append pe_w (pa_cons pe_w pa_nil (star_of hp)) hbase (by cases e <;> first
    | rfl
    | cases hp) hline (star_of hp) (plain_of rfl)) hs) pb_w, hv.run σ H1 e0 ok _ fun H2 e2 => ?_⟩
  have l2 := hl.ex (e0.trans e2)
  obtain ⟨ws0, h2, _⟩ := id l2
  refine ⟨.inl ⟨rfl, ws0, SqL.of h2⟩, (hd H2 (e0.trans e2)).run σ H2 (Ex.refl _) (ok.mono e2.t) _ fun v d H3 k3 j r3 => ?_⟩
  have l3 := k3.lst l2 nl
  obtain ⟨ws, h3, q3⟩ := id l3
  have t : TLe H3 (upd H3 l (.lst (ws ++ [v]))) := TLe.upd fun xs z => by
    rw [h3] at z
    cases z
  have l4 : Lst (upd H3 l (.lst (ws ++ [v]))) l (ds ++ [d]) := ⟨_, upd_same, (q3.snoc r3).mono t⟩
  refine ⟨l, ws, v, rfl, rfl, h3, Nat.lt_of_le_of_lt (by rw [q3.len]; exact hn) (by decide), ?_⟩
  refine (q d H3 _ ((e0.trans e2).kp.trans k3) j (ExL.kp (fun b o hb z => ?_) l3 ⟨_, l4⟩) l4).run σ _ (Ex.refl _) (((ok.mono e2.t).mono k3.t).mono t)
  rw [upd_ne hb]
  exact z⟩
theorem if_both {P Q : Prop} (b : Bool) (h1 : P) (h2 : Q) : if b = true then P else Q := by
  split
  · exact h1
  · exact h2
def BenchAt (i : Nat) (acc : List PyData) : Prop := ∃ bs : List Int, acc = zD bs ∧ (∀ b ∈ bs, 0 ≤ b ∧ b < i) ∧ Rising (zD bs) ∧ bs.length ≤ i
theorem BenchAt.le {i : Nat} {acc : List PyData} (h : BenchAt i acc) : BenchAt (i + 1) acc := by
  obtain ⟨bs, h1, h2, h3, h4⟩ := h
  exact ⟨bs, h1, fun b hb => by have := h2 b hb; omega, h3, by omega⟩
theorem BenchAt.snoc {i : Nat} {acc : List PyData} (h : BenchAt i acc) : BenchAt (i + 1) (acc ++ [.int (i : Int)]) := by
  obtain ⟨bs, rfl, h2, h3, h4⟩ := h
  refine ⟨bs ++ [(i : Int)], by unfold zD; simp, fun b hb => ?_, ?_, by simp; omega⟩
  · rcases List.mem_append.mp hb with z | z
    · have := h2 b z
      omega
    · obtain rfl : b = (i : Int) := by simpa using z
      omega
  · unfold zD
    rw [List.map_append]
    refine rising_snoc h3 fun z hz => ?_
    obtain ⟨b, hb, rfl⟩ := mem_zD hz
    exact congrArg some (decide_eq_true (h2 b hb).2)
def SmithAt (i : Nat) (acc : List PyData) : Prop := ∃ ss : List Smith, acc = ss.map smithD ∧ (∀ s ∈ ss, (0 ≤ s.hall ∧ s.hall < i) ∧ (1 ≤ s.most ∧ s.most ≤ 6) ∧ (1 ≤ s.price ∧ s.price ≤ 9)) ∧ Rising (ss.map fun s => .int s.hall) ∧ ss.length ≤ i
theorem SmithAt.le {i : Nat} {acc : List PyData} (h : SmithAt i acc) : SmithAt (i + 1) acc := by
  obtain ⟨bs, h1, h2, h3, h4⟩ := h
  exact ⟨bs, h1, fun b hb => by have := h2 b hb; omega, h3, by omega⟩
theorem SmithAt.snoc {i : Nat} {acc : List PyData} {m c : Int} (h : SmithAt i acc) (hm : 1 ≤ m ∧ m ≤ 6) (hc : 1 ≤ c ∧ c ≤ 9) : SmithAt (i + 1) (acc ++ [.tuple [.int (i : Int), .int m, .int c]]) := by
  obtain ⟨bs, rfl, h2, h3, h4⟩ := h
  refine ⟨bs ++ [⟨(i : Int), m, c⟩], by simp [smithD], fun b hb => ?_, ?_, by simp; omega⟩
  · rcases List.mem_append.mp hb with z | z
    · have := h2 b z
      omega
    · obtain rfl : b = ⟨(i : Int), m, c⟩ := by simpa using z
      exact ⟨⟨by show 0 ≤ (i : Int); omega, by show (i : Int) < _; omega⟩, hm, hc⟩
  · rw [List.map_append]
    refine rising_snoc h3 fun z hz => ?_
    obtain ⟨b, hb, rfl⟩ := List.mem_map.mp hz
    exact congrArg some (decide_eq_true (h2 b hb).1.2)
inductive R_hse : List PyData → Nat → (PyData → Prop) → Prop
  | mk : R_hse [] 300 (fun d => ∃ h, d = hoD h ∧ HoOk h)
theorem len__law_house : ∀ vs H Q E, SpP R_hse vs H Q E → vs.length = (["_law_pen_here"] : List Str).length := len_P fun ds c D h => by cases h; rfl
def Wears (t : Int) (i : Nat) (acc : List PyData) : Prop := ∃ ws : List (List Int), acc = ws.map kD ∧ ws.length = i ∧ ∀ l ∈ ws, WearOk t l
theorem wears_snoc {t : Int} {i : Nat} {acc : List PyData} {l : List Int} (h : Wears t i acc) (hl : WearOk t l) : Wears t (i + 1) (acc ++ [kD l]) := by
  obtain ⟨ws, rfl, h2, h3⟩ := h
  refine ⟨ws ++ [l], by simp, by simp [h2], fun x hx => ?_⟩
  rcases List.mem_append.mp hx with z | z
  · exact h3 x z
  · obtain rfl : x = l := by simpa using z
    exact hl
theorem low_wear {t : Int} {acc : List PyData} {n : Nat} (h : Low 4 n acc) (ht : (n : Int) = t) : ∃ l, acc = zD l ∧ WearOk t l := by
  obtain ⟨l, rfl, h1, h2⟩ := h
  refine ⟨l, rfl, by rw [h1]; exact ht, fun x hx => ?_⟩
  have := h2 x hx
  omega
theorem sc__law_house : FnScope ((["_law_pen_here"] : List Str) ++ (["_law_teeth", "_law_halls", "_law_letters", "_law_wears", "_law_doors", "_law_place", "_law_benches", "_law_smiths", "_law_hall", "_law_letter", "_law_tooth"] : List Str)) ["_law_pen_here"] (defScope (top 108)) := fnScope_by (by decide +kernel)
instance : HasCal "_law_house" 3 ["_law_pen_here"] (SpP R_hse) := ⟨fun P w K mg T => by
  refine Cal.mk' T (i := 108) (N := (["_law_pen_here"] : List Str) ++ (["_law_teeth", "_law_halls", "_law_letters", "_law_wears", "_law_doors", "_law_place", "_law_benches", "_law_smiths", "_law_hall", "_law_letter", "_law_tooth"] : List Str)) (List.mem_of_getElem? (i := 57) rfl) (by decide +kernel) sc__law_house (fun _ _ _ _ _ _ us hl => match us, hl with | [_], _ => rfl) len__law_house fun X A hs hN hf vs H Q E h => ?_
  obtain ⟨p, us, ds, c, DD, n, rfl, hr, ra, pen, q⟩ := h
  cases hr with
  | mk =>
  cases ra
  have M1 : p ∈ [p] := List.mem_singleton.mpr rfl
  refine go_beginS (ss := [.v (.ref p)]) hs hN (.cons rfl .nil) rfl (by decide +kernel) ?_
  simp only [nvS, unM]
  refine gm_unp (M := [p]) (J := fun d H' => ∃ t a l : Int, d = .tuple [.int t, .int a, .int l] ∧ (1 ≤ t ∧ t ≤ 3) ∧ (1 ≤ a ∧ a ≤ 4) ∧ (1 ≤ l ∧ l ≤ 3) ∧ Pen H' p (n + 297)) A (em_tup (am_cons (em_ixL pen.has (am_a (ea_cons ed_int (ea_cons ed_int (ea_cons ed_int (ea_cons ed_int (ea_cons ed_int ea_nil))))) fun Ha ea _ => ⟨by show 5 ≤ 1000; decide, fun Hb eb => em_draw A hs (ev_var .here hs (by decide +kernel)) ed_int (by decide) (pen.ex (ea.trans eb) : Pen Hb p ((n + 299) + 1)) M1 fun i0 Hc kc pc g1 g2 _ => ?_⟩)))) (fun d H1 k1 hj => ?_) (hw := sw_none3 hs (by decide +kernel))
  · obtain ⟨t, e1, t1, t2⟩ := at5 g1 g2
    refine ⟨i0, .int t, rfl, e1, fun _ => am_cons (em_add (em_d ed_int fun Hd ed0 _ => em_draw A hs (ev_var .here hs (by decide +kernel)) ed_int (by decide) (pc.ex ed0 : Pen Hd p ((n + 298) + 1)) M1 fun i1 He ke pe_ f1 f2 _ => ⟨1, i1, rfl, rfl, fun _ => am_cons (em_add (em_d ed_int fun Hf ef _ => em_draw A hs (ev_var .here hs (by decide +kernel)) ed_int (by decide) (pe_.ex ef : Pen Hf p ((n + 297) + 1)) M1 fun i2 Hg kg pg l1 l2 _ => ⟨1, i2, rfl, rfl, fun _ => am_nil fun Hh eh _ _ _ _ => ⟨by show 3 ≤ 1000; decide, fun Hi ei => ?_⟩⟩))⟩))⟩
    exact ⟨t, _, _, rfl, ⟨t1, t2⟩, by omega, by omega, (pg.ex eh).ex ei⟩
  obtain ⟨t, a, l, rfl, ht, ha, hl, pen1⟩ := hj
  refine ⟨_, _, .tup (.cons (.name (.next (.here))) (.cons (.name (.next (.next (.here)))) (.cons (.name (.next (.next (.next (.here))))) .nil))), fun q hq => locN hf hs (by simp at hq; rcases hq with rfl | rfl | rfl <;> decide +kernel), ?_⟩
  have M1 : p ∈ [p] := M1
  have tl1 : (rangeD l).length = l.toNat := rangeD_len l
  have tl2 : (rangeD t).length = t.toNat := rangeD_len t
  refine gm_set (M := [p]) A (em_tupL (J := fun d H' => (∃ ws : List (List Int), d = .tuple (ws.map kD) ∧ (ws.length : Int) = l ∧ ∀ l ∈ ws, WearOk t l) ∧ Pen H' p (n + 288)) A hs (lm_lc (N := ["_law_pen_here", "_law_teeth", "_law_halls", "_law_letters", "_law_wears", "_law_doors", "_law_place", "_law_benches", "_law_smiths", "_law_hall", "_law_letter", "_law_tooth"]) (own := [("_law_letter", 10)]) (PI p (n + 288) 3 fun items i acc => items = rangeD l ∧ Wears t i acc) A hs pen1.has (im_i (JI := fun its H1 => its = rangeD l ∧ Pen H1 p (n + 297)) (ei_range A hs (by decide +kernel) (ed_var (.next (.next (.next (.here)))) hs (by decide +kernel)) (by first | omega | decide)) pen1.has (fun b hb => by cases hb) (fun _ e1 => ⟨rfl, pen1.ex e1⟩)) rfl (by decide +kernel) (.keep (by decide +kernel) (by decide) (.keep (by decide +kernel) (by decide) (.drop (.drop (.drop (.drop (.drop (.drop (.drop (.drop (.drop (.drop .nil)))))))))))) (fun items H1 k1 e => by obtain ⟨rfl, e⟩ := e; exact ⟨by omega, Nat.zero_le _, e.le (by omega), rfl, [], rfl, rfl, fun x h => by cases h⟩) (pi_pe pen1) (fun items i d acc Hc hd hP hk => by
      obtain ⟨h1, h2, h3, h4⟩ := hP
      obtain ⟨m1, hm1⟩ : ∃ m, m = n + 288 + 3 * (items.length - (i + 1)) := ⟨_, rfl⟩
      have pw := pi_step hd h2
      rw [← hm1] at pw
      exact ⟨_, (.name (.next (.next (.next (.next (.next (.next (.next (.next (.next (.next (.here)))))))))))), fun X A hK hs => (tsm_nil fun H2 e2 => fun X A hK hs => em_tupL A hs (lm_lc (N := ["_law_pen_here", "_law_teeth", "_law_halls", "_law_letters", "_law_wears", "_law_doors", "_law_place", "_law_benches", "_law_smiths", "_law_hall", "_law_letter", "_law_tooth"]) (own := [("_law_tooth", 11)]) (PI p m1 1 fun items i acc => items = rangeD t ∧ Low 4 i acc) A hs (pw.ex e2).has (im_i (JI := fun its H1 => its = rangeD t ∧ Pen H1 p (m1 + 3)) (ei_range A hs (by decide +kernel) (ed_var (.next (.here)) hs (by decide +kernel)) (by first | omega | decide)) (pw.ex e2).has (fun b hb => by cases hb) (fun _ e1 => ⟨rfl, (pw.ex e2).ex e1⟩)) rfl (by decide +kernel) (.keep (by decide +kernel) (by decide) (.drop (.drop (.drop (.drop (.drop (.drop (.drop (.drop (.drop (.drop (.drop .nil)))))))))))) (fun items H1 k1 e => by obtain ⟨rfl, e⟩ := e; exact ⟨by omega, Nat.zero_le _, e.le (by omega), rfl, low_nil⟩) (pi_pe (pw.ex e2)) (fun items i d acc Hc hd hP hk => by
      obtain ⟨h5, h6, h7, h8⟩ := hP
      exact ⟨_, (.name (.next (.next (.next (.next (.next (.next (.next (.next (.next (.next (.next (.here))))))))))))), fun X A hK hs => (tsm_nil fun H5 e5 => fun X A hK hs => em_ixL ((pi_step hd h6).ex e5).has (am_a (ea_cons ed_int (ea_cons ed_int (ea_cons ed_int (ea_cons ed_int ea_nil)))) fun Ha ea _ => ⟨by show 4 ≤ 1000; decide, fun Hb eb => em_draw A hs (ev_var .here hs (by decide +kernel)) ed_int (by decide) (((pi_step hd h6).ex e5).ex (ea.trans eb)) M1 fun i3 H6 k6 p6 g1 g2 _ => ⟨i3, .int i3, rfl, at4 g1 g2, lt_of_get hd, p6, h7, low_snoc h8 g1 g2⟩⟩))⟩)) fun ds H3 H4 k3 hj e4 => (by obtain ⟨its, g1, g2, rfl, g3⟩ := hj; obtain ⟨lw, rfl, hw⟩ := low_wear (t := t) g3 (by rw [tl2]; omega); exact ⟨lt_of_get hd, (by rw [← hm1]; exact (g2.ex e4).le (by omega)), h3, wears_snoc h4 hw⟩))⟩)) fun ds H2 H3 k2 hj e3 => ?_) (fun d => (.next (.next (.next (.next (.here)))))) (locN hf hs (by decide +kernel)) fun d H2 k2 hj => ?_
  · obtain ⟨its, g1, g2, rfl, ws, rfl, g3, g4⟩ := hj
    exact ⟨⟨ws, rfl, by rw [g3, tl1]; omega, g4⟩, (g2.ex e3).le (by omega)⟩
  obtain ⟨⟨ws, rfl, hwl, hws⟩, pen2⟩ := hj
  have hal0 : 0 ≤ a * l := Int.mul_nonneg (by omega) (by omega)
  have hal1 : a * l ≤ 4 * 3 := Int.mul_le_mul (by omega) (by omega) (by omega) (by omega)
  have hal : 0 ≤ a * l ∧ a * l ≤ 12 := ⟨hal0, by omega⟩
  have tl3 : (rangeD (a * l)).length = (a * l).toNat := rangeD_len _
  refine go_setL A (el_lst ea_nil) (fun _ => (.next (.next (.next (.next (.next (.here))))))) (locN hf hs (by decide +kernel)) fun ld H3 hld e3 L3 => ?_
  have pen3 := pen2.ex e3
  have npl : p ≠ ld := fun z => by rw [z] at pen2; exact pen2.not hld
  have hM : Has1 [p, ld] H3 := fun b hb => by
    rcases List.mem_cons.mp hb with rfl | hb
    · exact pen3.not
    · obtain rfl : b = ld := by simpa using hb
      obtain ⟨vs, h1, _⟩ := L3
      rw [h1]
      exact fun z => by cases z
  refine gm_for [p, ld] (fun i nv H' => ∃ ds : List Door, Pen H' p (n + 48 + 20 * (12 - i)) ∧ DoorsAt t a l i ds ∧ Lst H' ld (ds.map doorD) ∧ ∃ s1, nv = ([("_law_pen_here", .v (.ref p)), ("_law_teeth", .d (.int t)), ("_law_halls", .d (.int a)), ("_law_letters", .d (.int l)), ("_law_wears", .d (.tuple (ws.map kD))), ("_law_doors", .v (.ref ld)), ("_law_place", s1), ("_law_benches", .un), ("_law_smiths", .un), ("_law_hall", .un), ("_law_letter", .un), ("_law_tooth", .un)] : Nv)) A (ei_range A hs (by decide +kernel) (ed_mul (ed_var (.next (.next (.here))) hs (by decide +kernel)) (ed_var (.next (.next (.next (.here)))) hs (by decide +kernel)) (by omega)) (by first | omega | decide)) hM (fun b hb => by cases hb) (fun H4 e4 => ⟨[], (pen3.ex e4).le (by omega), ⟨(fun d h => by cases h), (fun d h => by cases h), (fun i x y h => by simp at h), by decide⟩, L3.ex e4, _, rfl⟩) ?_ ?_ ?_
  · rintro i nv H' H'' ⟨ds, h1, h2, h3, h4⟩ e
    exact ⟨ds, h1.ex e, h2, h3.ex e, h4⟩
  · rintro i d nv H' hd ⟨_, _, _, _, s1, rfl⟩ k1
    have hi := lt_of_get hd
    rw [tl3] at hi
    have hd2 : d = .int (i : Int) := by
      unfold rangeD at hd
      rw [List.getElem?_map, List.getElem?_range hi] at hd
      exact (Option.some.inj hd).symm
    subst hd2
    refine ⟨_, _, .name (.next (.next (.next (.next (.next (.next (.here))))))), fun q hq => locN hf hs (by simp at hq; rcases hq with rfl; decide +kernel), ?_⟩
    rintro H4 e4 ⟨ds, pen4, hds, L4, _⟩
    obtain ⟨m, hm⟩ : ∃ m, m = n + 48 + 20 * (12 - (i + 1)) := ⟨_, rfl⟩
    have pen4 : Pen H4 p (m + 20) := pen4.le (by omega)
    have nl : ld ∉ [p] := not1 fun z => npl z.symm
    have sub1 : ∀ b ∈ [p], b ∈ [p, ld] := fun b hb => List.mem_cons.mpr (.inl (by simpa using hb))
    refine gm_when (M := [p]) (JB := fun b H5 => Pen H5 p (m + 19) ∧ (b = true → ds.length < 10)) (tm_and2 (tm_gt (em_draw A hs (ev_var .here hs (by decide +kernel)) ed_int (by decide) (pen4 : Pen H4 p ((m + 19) + 1)) M1 fun i0 H5 k5 p5 g1 g2 _ => em_d ed_int fun H6 e6 _ => ⟨i0, 0, rfl, rfl, fun k6 => ?_⟩))) (fun H5 k5 hj => ?_) fun H5 k5 hj => ?_
    · have HL := k6.lst L4 nl
      by_cases hz : 0 < i0
      · rw [decide_eq_true hz, if_pos rfl]
        refine tm_t (et_lt (ed_lenL A hs (EvV.r (ev_var (.next (.next (.next (.next (.next (.here)))))) hs (by decide +kernel)) HL)) ed_int) fun H7 e7 => ⟨(p5.ex e6).ex e7, fun z => ?_⟩
        have z := of_decide_eq_true z
        rw [List.length_map] at z
        omega
      · rw [decide_eq_false hz, if_neg (by decide)]
        exact ⟨p5.ex e6, fun z => by cases z⟩
    · obtain ⟨p5, hlt⟩ := hj
      have hlt := hlt rfl
      have HL := k5.lst L4 nl
      have hall2 : (i : Int) / l < 1000000 := by
        have := Int.ediv_lt_of_lt_mul (a := (i : Int)) (b := a) (by omega : 0 < l) (by omega)
        omega
      refine gm_app (M := [p]) (J := fun d H6 => (∃ to b, d = doorD ⟨(i : Int) / l, (i : Int) % l, to, b⟩ ∧ 0 ≤ to ∧ to < a ∧ BoxOk t b) ∧ Pen H6 p m) (ev_var (.next (.next (.next (.next (.next (.here)))))) hs (by decide +kernel)) HL nl (fun H6 e6 => em_tup (am_cons (em_d (ed_fdiv (ed_var (.next (.next (.next (.next (.next (.next (.here))))))) hs (by decide +kernel)) (ed_var (.next (.next (.next (.here)))) hs (by decide +kernel)) (by omega)) fun Ha ea _ => am_cons (em_d (ed_mod (ed_var (.next (.next (.next (.next (.next (.next (.here))))))) hs (by decide +kernel)) (ed_var (.next (.next (.next (.here)))) hs (by decide +kernel)) (by omega)) fun Hb eb _ => am_cons (em_draw A hs (ev_var .here hs (by decide +kernel)) (ed_var (.next (.next (.here))) hs (by decide +kernel)) (by omega) (((p5.ex e6).ex (ea.trans eb)) : Pen Hb p ((m + 18) + 1)) M1 fun to Hc kc pc g1 g2 _ => am_cons (em_pc (n := "_law_box") A hs (ev_var .here hs (by decide +kernel)) (ea_cons (ed_var (.next (.here)) hs (by decide +kernel)) ea_nil) (R_box.mk t (by omega)) pc M1 fun db Hd kd pd hdb _ => am_nil fun He ee _ _ _ _ _ => ⟨by show 4 ≤ 1000; decide, fun Hf ef => ?_⟩)))))) (by rw [List.length_map]; omega) fun d H6 H7 k6 hj k7 L7 => ?_
      · obtain ⟨b, rfl, hb⟩ := hdb
        exact ⟨⟨to, b, rfl, g1, g2, hb⟩, (pd.ex ee).ex ef⟩
      obtain ⟨⟨to, b, rfl, g1, g2, hb⟩, p6⟩ := hj
      refine go_nil fun σ H8 e8 ok8 => ⟨_, pss_nil, ((((k5.trans k6).sub sub1).trans (k7.sub fun b hb => List.mem_cons_of_mem _ hb)).trans e8.kp), _, ok8, ds ++ [⟨(i : Int) / l, (i : Int) % l, to, b⟩], ?_, hds.snoc (by omega) (by omega) hlt g1 g2 hb, ?_, _, rfl⟩
      · rw [← hm]
        exact (p6.kp k7 (not1 npl)).ex e8
      · rw [List.map_append]
        exact L7.ex e8
    · refine go_nil fun σ H7 e7 ok7 => ⟨(k5.trans e7.kp).sub sub1, _, ok7, ds, ?_, hds.le, (k5.lst L4 nl).ex e7, _, rfl⟩
      rw [← hm]
      exact (hj.1.le (by omega)).ex e7
  · rintro nv H4 k4 ⟨ds, pen4, hds, L4, s1, rfl⟩
    have pen4 : Pen H4 p (n + 48) := pen4.le (by omega)
    have tl4 : (rangeD a).length = a.toNat := rangeD_len _
    refine gm_set (M := [p]) A (em_tupL (J := fun d H' => (∃ bs, d = .tuple bs ∧ BenchAt a.toNat bs) ∧ Pen H' p (n + 44)) A hs (lm_lc (N := ["_law_pen_here", "_law_teeth", "_law_halls", "_law_letters", "_law_wears", "_law_doors", "_law_place", "_law_benches", "_law_smiths", "_law_hall", "_law_letter", "_law_tooth"]) (own := [("_law_hall", 9)]) (PI p (n + 44) 1 fun items i acc => items = rangeD a ∧ BenchAt i acc) A hs pen4.has (im_i (JI := fun its H1 => its = rangeD a ∧ Pen H1 p (n + 48)) (ei_range A hs (by decide +kernel) (ed_var (.next (.next (.here))) hs (by decide +kernel)) (by first | omega | decide)) pen4.has (fun b hb => by cases hb) (fun _ e1 => ⟨rfl, pen4.ex e1⟩)) rfl (by decide +kernel) (.keep (by decide +kernel) (by decide) (.drop (.drop (.drop (.drop (.drop (.drop (.drop (.drop (.drop (.drop (.drop .nil)))))))))))) (fun items H1 k1 e => by obtain ⟨rfl, e⟩ := e; exact ⟨by omega, Nat.zero_le _, e.le (by omega), rfl, [], rfl, (fun x h => by cases h), (fun i x y h => by simp [zD] at h), by decide⟩) (pi_pe pen4) (fun items i d acc Hc hd hP hk => by
      obtain ⟨h1, h2, h3, h4⟩ := hP
      have hd3 : d = .int (i : Int) := (rangeD_get (n := a) (by rw [← h3]; exact hd)).2
      subst hd3
      exact ⟨_, (.name (.next (.next (.next (.next (.next (.next (.next (.next (.next (.here))))))))))), fun X A hK hs => (tsm_one (tm_eq A (em_draw A hs (ev_var .here hs (by decide +kernel)) ed_int (by decide) (pi_step hd h2) M1 fun i0 H5 k5 p5 g1 g2 _ => em_d ed_int fun H6 e6 _ => ⟨rfl, rfl, if_both _ (fun X A hK hs => em_d (ed_var (.next (.next (.next (.next (.next (.next (.next (.next (.next (.here)))))))))) hs (by decide +kernel)) fun H7 e7 => ⟨lt_of_get hd, (p5.ex e6).ex e7, h3, h4.snoc⟩) ⟨lt_of_get hd, p5.ex e6, h3, h4.le⟩⟩)))⟩)) fun ds H2 H3 k2 hj e3 => ?_) (fun d => (.next (.next (.next (.next (.next (.next (.next (.here))))))))) (locN hf hs (by decide +kernel)) fun d H5 k5 hj => ?_
    · obtain ⟨its, g1, g2, rfl, g3⟩ := hj
      exact ⟨⟨_, rfl, by rw [← tl4]; exact g3⟩, (g2.ex e3).le (by omega)⟩
    obtain ⟨⟨_, rfl, bs, rfl, hb1, hb2, hb3⟩, pen5⟩ := hj
    have nl : ld ∉ [p] := not1 fun z => npl z.symm
    have L5 := k5.lst L4 nl
    refine (gm_lc (N := ["_law_pen_here", "_law_teeth", "_law_halls", "_law_letters", "_law_wears", "_law_doors", "_law_place", "_law_benches", "_law_smiths", "_law_hall", "_law_letter", "_law_tooth"]) (own := [("_law_hall", 9)]) (PI p (n + 32) 3 fun items i acc => items = rangeD a ∧ SmithAt i acc) A hs pen5.has (im_i (JI := fun its H1 => its = rangeD a ∧ Pen H1 p (n + 44)) (ei_range A hs (by decide +kernel) (ed_var (.next (.next (.here))) hs (by decide +kernel)) (by first | omega | decide)) pen5.has (fun b hb => by cases hb) (fun _ e1 => ⟨rfl, pen5.ex e1⟩)) rfl (by decide +kernel) (.keep (by decide +kernel) (by decide) (.drop (.drop (.drop (.drop (.drop (.drop (.drop (.drop (.drop (.drop (.drop .nil)))))))))))) (fun items H1 k1 e => by obtain ⟨rfl, e⟩ := e; exact ⟨by omega, Nat.zero_le _, e.le (by omega), rfl, [], rfl, (fun x h => by cases h), (fun i x y h => by simp at h), by decide⟩) (pi_pe pen5) (fun items i d acc Hc hd hP hk => by
      obtain ⟨h1, h2, h3, h4⟩ := hP
      have hd3 : d = .int (i : Int) := (rangeD_get (n := a) (by rw [← h3]; exact hd)).2
      subst hd3
      obtain ⟨m1, hm1⟩ : ∃ m, m = n + 32 + 3 * (items.length - (i + 1)) := ⟨_, rfl⟩
      have pw := pi_step hd h2
      rw [← hm1] at pw
      exact ⟨_, (.name (.next (.next (.next (.next (.next (.next (.next (.next (.next (.here))))))))))), fun X A hK hs => (tsm_one (tm_eq A (em_draw A hs (ev_var .here hs (by decide +kernel)) ed_int (by decide) (pw : Pen Hc p ((m1 + 2) + 1)) M1 fun i0 H6 k6 p6 g1 g2 _ => em_d ed_int fun H7 e7 _ => ⟨rfl, rfl, if_both _ (fun X A hK hs => em_tup (am_cons (em_d (ed_var (.next (.next (.next (.next (.next (.next (.next (.next (.next (.here)))))))))) hs (by decide +kernel)) fun Ha ea _ => am_cons (em_add (em_d ed_int fun Hb eb _ => em_draw A hs (ev_var .here hs (by decide +kernel)) ed_int (by decide) ((((p6.ex e7).ex ea).ex eb) : Pen Hb p ((m1 + 1) + 1)) M1 fun i1 Hd1 kd1 pd1 f1 f2 _ => ⟨1, i1, rfl, rfl, fun _ => am_cons (em_add (em_d ed_int fun He ee _ => em_draw A hs (ev_var .here hs (by decide +kernel)) ed_int (by decide) (pd1.ex ee : Pen He p (m1 + 1)) M1 fun i2 Hf kf pf l1 l2 _ => ⟨1, i2, rfl, rfl, fun _ => am_nil fun Hg eg _ _ _ _ => ⟨by show 3 ≤ 1000; decide, fun Hh eh => ⟨lt_of_get hd, (by rw [← hm1]; exact (pf.ex eg).ex eh), h3, h4.snoc (by omega) (by omega)⟩⟩⟩))⟩))))) ⟨lt_of_get hd, (by rw [← hm1]; exact (p6.ex e7).le (by omega)), h3, h4.le⟩⟩)))⟩) (fun _ => (.next (.next (.next (.next (.next (.next (.next (.next (.here)))))))))) (by decide +kernel) fun ls H6 acc its hls k6 hP L6 => ?_)
    obtain ⟨_, pen6, rfl, ss, rfl, hs1, hs2, hs3⟩ := hP
    have L5 := k6.lst L5 nl
    refine go_ret (ed_tup (ea_cons (ed_var (.next (.here)) hs (by decide +kernel)) (ea_cons (ed_var (.next (.next (.here))) hs (by decide +kernel)) (ea_cons (ed_var (.next (.next (.next (.next (.here))))) hs (by decide +kernel)) (ea_cons (ed_tupL A hs (EvV.r (ev_var (.next (.next (.next (.next (.next (.here)))))) hs (by decide +kernel)) L5)) (ea_cons (ed_var (.next (.next (.next (.next (.next (.next (.next (.here)))))))) hs (by decide +kernel)) (ea_cons (ed_tupL A hs (EvV.r (ev_var (.next (.next (.next (.next (.next (.next (.next (.next (.here))))))))) hs (by decide +kernel)) L6)) ea_nil))))))) fun v H7 e7 r => q v (hoD ⟨t, a, ws, ds, bs, ss⟩) H7 ((((((k1.trans k2).trans (kp_drop e3 k4 hld)).trans k5).trans k6)).trans e7.kp) ((pen6.ex e7).le (by omega)) ⟨_, rfl, ?_⟩ r
    refine ⟨ht, by show 1 ≤ a ∧ a ≤ 6; omega, by show 1 ≤ ws.length ∧ ws.length ≤ 6; omega, hws, hds.n, fun d hd => ?_, hds.ri, fun b hb => ?_, hb2, ?_, fun s hss => ?_, hs2, ?_⟩
    · show DoorOk t a (ws.length : Int) d
      rw [hwl]
      exact hds.ok d hd
    · have := hb1 b hb
      show 0 ≤ b ∧ b ≤ a - 1
      omega
    · show bs.length ≤ 10
      omega
    · obtain ⟨h1, h2, h3⟩ := hs1 s hss
      exact ⟨by show 0 ≤ s.hall ∧ s.hall ≤ a - 1; rw [tl4] at h1; omega, h2, h3⟩
    · show ss.length ≤ 10
      rw [tl4] at hs3
      omega⟩
end WK
/-! WKPl -/
set_option Elab.async false
set_option linter.all false
set_option maxRecDepth 100000
set_option maxHeartbeats 1000000
/-! The law's pure defs. -/
namespace WK
open PySem PySem.Spec PyProof.Rows L2
def inB : List (Int × Int) → List Int → Bool
  | g :: b, x :: k => (decide (g.1 ≤ x) && decide (x ≤ g.2)) && inB b k
  | _, _ => true
def inT : PyData → Bool
  | .tuple [.tuple [.int lo, .int hi], .int x] => decide (lo ≤ x) && decide (x ≤ hi)
  | _ => true
theorem in_eq : ∀ (b : List (Int × Int)) (key : List Int), (((zipD (b.map gD) (zD key)).filter fun _ => true).map inT).all id = inB b key
  | [], key => by cases key <;> rfl
  | g :: b, [] => rfl
  | g :: b, x :: k => by
    have ih := in_eq b k
    rw [filt_all] at ih ⊢
    show ((decide (g.1 ≤ x) && decide (x ≤ g.2)) && ((zipD (b.map gD) (zD k)).map inT).all id) = _
    rw [ih]
    rfl
theorem mem_zipG {b : List (Int × Int)} {k : List Int} {d : PyData} (h : d ∈ zipD (b.map gD) (zD k)) : ∃ (g : Int × Int) (x : Int), d = .tuple [.tuple [.int g.1, .int g.2], .int x] := by
  obtain ⟨i, hi⟩ := List.mem_iff_getElem?.mp h
  unfold zipD at hi
  rw [List.getElem?_zipWith] at hi
  unfold zD at hi
  rw [List.getElem?_map, List.getElem?_map] at hi
  cases e1 : b[i]? with
  | none => rw [e1] at hi; cases hi
  | some g =>
    cases e2 : k[i]? with
    | none => rw [e1, e2] at hi; cases hi
    | some x =>
      rw [e1, e2] at hi
      exact ⟨g, x, (Option.some.inj hi).symm⟩
inductive R_lin : List PyData → PyData → Prop
  | mk (b : List (Int × Int)) (key : List Int) (hl : b.length ≤ 1000) : R_lin [bD b, kD key] (.bool (inB b key))
theorem sc__law_in : FnScope ((["_law_box_here", "_law_key_here"] : List Str) ++ (["_law_low", "_law_high", "_law_height"] : List Str)) ["_law_box_here", "_law_key_here"] (defScope (top 112)) := fnScope_by (by decide +kernel)
instance : HasCal "_law_in" 1 ["_law_box_here", "_law_key_here"] (SpD R_lin) := ⟨fun P w K mg T => by
  refine Cal.pure T (i := 112) (more := (["_law_low", "_law_high", "_law_height"] : List Str)) (List.mem_of_getElem? (i := 61) rfl) (by decide +kernel) sc__law_in (fun _ _ _ _ _ _ us hl => match us, hl with | [_, _], _ => rfl) (by decide +kernel) (fun ds r h => by cases h <;> rfl) fun X A hs hf ds r h H D hD => ?_
  cases h with
  | mk bx key hl =>
    simp only [nvOf, unM]
    have zl : (zipD (bx.map gD) (zD key)).length ≤ 1000 := by
      unfold zipD
      rw [List.length_zipWith, List.length_map]
      omega
    exact go_out (ed_all A hs (EvL.r (el_lc (N := ["_law_box_here", "_law_key_here", "_law_low", "_law_high", "_law_height"]) (own := [("_law_low", 2), ("_law_high", 3), ("_law_height", 4)]) (fun _ => true) (fun d => .bool (inT d)) A hs (ei_zip A hs (by decide +kernel) (ed_var .here hs (by decide +kernel)) (ed_var (.next (.here)) hs (by decide +kernel))) (by omega) rfl (by decide +kernel) (.drop (.drop (.drop (.drop (.drop .nil))))) (fun d hd => by
      obtain ⟨g, x, rfl⟩ := mem_zipG hd
      exact ⟨_, (.tup (.cons (.tup (.cons (.name (.next (.next (.here)))) (.cons (.name (.next (.next (.next (.here))))) .nil))) (.cons (.name (.next (.next (.next (.next (.here)))))) .nil))), fun X A hs => ⟨ts_nil, fun h_1 => (ed_chain (ed_var (.next (.next (.here))) hs (by decide +kernel)) (ed_var (.next (.next (.next (.next (.here))))) hs (by decide +kernel)) (ed_var (.next (.next (.next (.here)))) hs (by decide +kernel)))⟩⟩))) (bools_map _ _)) (by rw [in_eq]) hD⟩
/-! two teeth at most -/
def two (h : Ho) : Ho := ⟨min 2 h.teeth, h.halls, h.wears.map (·.take 2), h.doors.map fun d => ⟨d.hall, d.letter, d.to, d.gaps.take 2⟩, h.benches, h.smiths⟩
def dr2 : PyData → PyData
  | .tuple [h, l, t, .tuple gs] => .tuple [h, l, t, .tuple (cutD gs none (some 2))]
  | d => d
theorem wears_cut (l : List (List Int)) : ((l.map kD).filter fun _ => true).map cut2 = (l.map (·.take 2)).map kD := by
  rw [filt_all, List.map_map, List.map_map]
  apply List.map_congr_left
  intro d _
  show PyData.tuple (cutD (zD d) none (some 2)) = _
  rw [cut_to2]
  unfold zD
  rw [← List.map_take]
  rfl
theorem doors_cut2 (l : List Door) : ((l.map doorD).filter fun _ => true).map dr2 = (l.map fun d => (⟨d.hall, d.letter, d.to, d.gaps.take 2⟩ : Door)).map doorD := by
  rw [filt_all, List.map_map, List.map_map]
  apply List.map_congr_left
  intro d _
  show PyData.tuple [.int d.hall, .int d.letter, .int d.to, .tuple (cutD (d.gaps.map gD) none (some 2))] = _
  rw [cut_to2, ← List.map_take]
  rfl
theorem two_ok {h : Ho} (ok : HoOk h) : HoOk (two h) := by
  have t := ok.teeth
  have tk : ∀ {α : Type} (l : List α), (l.length : Int) = h.teeth → ((l.take 2).length : Int) = min 2 h.teeth := fun l hl => by
    rw [List.length_take]
    omega
  refine ⟨by show 1 ≤ min 2 h.teeth ∧ min 2 h.teeth ≤ 3; omega, ok.halls, by show 1 ≤ (h.wears.map _).length ∧ (h.wears.map _).length ≤ 6; rw [List.length_map]; exact ok.wearsN, fun l hl => ?_, by show (h.doors.map _).length ≤ 10; rw [List.length_map]; exact ok.doorsN, fun d hd => ?_, ?_, ok.benches, ok.benchesR, ok.benchesN, ok.smiths, ok.smithsR, ok.smithsN⟩
  · obtain ⟨w, hw, rfl⟩ := List.mem_map.mp hl
    have := ok.wears w hw
    exact ⟨tk w this.1, fun x hx => this.2 x (List.mem_of_mem_take hx)⟩
  · obtain ⟨w, hw, rfl⟩ := List.mem_map.mp hd
    have := ok.doors w hw
    refine ⟨this.hall, ?_, this.to, tk _ this.gaps.1, fun g hg => this.gaps.2 g (List.mem_of_mem_take hg)⟩
    show 0 ≤ w.letter ∧ w.letter ≤ ((h.wears.map _).length : Int) - 1
    rw [List.length_map]
    exact this.letter
  · show Rising ((h.doors.map _).map _)
    rw [List.map_map]
    exact ok.doorsR
inductive R_two : List PyData → PyData → Prop
  | mk (h : Ho) (ok : HoOk h) : R_two [hoD h] (hoD (two h))
theorem sc__law_two : FnScope ((["_law_house_here"] : List Str) ++ (["_law_wears", "_law_doors", "_law_wear", "_law_door_here"] : List Str)) ["_law_house_here"] (defScope (top 113)) := fnScope_by (by decide +kernel)
instance : HasCal "_law_two" 1 ["_law_house_here"] (SpD R_two) := ⟨fun P w K mg T => by
  refine Cal.pure T (i := 113) (more := (["_law_wears", "_law_doors", "_law_wear", "_law_door_here"] : List Str)) (List.mem_of_getElem? (i := 62) rfl) (by decide +kernel) sc__law_two (fun _ _ _ _ _ _ us hl => match us, hl with | [_], _ => rfl) (by decide +kernel) (fun ds r h => by cases h <;> rfl) fun X A hs hf ds r h H D hD => ?_
  cases h with
  | mk h ok =>
    simp only [nvOf, unM]
    have wl := ok.wearsN
    have dl := ok.doorsN
    refine go_set A ((ed_tupL A hs (EvL.r (el_lc (N := ["_law_house_here", "_law_wears", "_law_doors", "_law_wear", "_law_door_here"]) (own := [("_law_wear", 3)]) (fun _ => true) cut2 A hs (ei_tup (ed_ix (ed_var .here hs (by decide +kernel)) ed_int (by first | rfl | assumption | decide +kernel))) (by rw [List.length_map]; omega) rfl (by decide +kernel) (.drop (.drop (.drop (.drop (.drop .nil))))) (fun d hd => by
      obtain ⟨w, hw, rfl⟩ := mem_keys hd
      exact ⟨_, (.name (.next (.next (.next (.here))))), fun X A hs => ⟨ts_nil, fun h_1 => (ed_slice (ed_var (.next (.next (.next (.here)))) hs (by decide +kernel)) eo_none (eo_some ed_int))⟩⟩)))).is (by rw [wears_cut])) (.next (.here)) (locN hf hs (by decide +kernel)) ?_
    refine go_set A ((ed_tupL A hs (EvL.r (el_lc (N := ["_law_house_here", "_law_wears", "_law_doors", "_law_wear", "_law_door_here"]) (own := [("_law_door_here", 4)]) (fun _ => true) dr2 A hs (ei_tup (ed_ix (ed_var .here hs (by decide +kernel)) ed_int (by first | rfl | assumption | decide +kernel))) (by rw [List.length_map]; omega) rfl (by decide +kernel) (.drop (.drop (.drop (.drop (.drop .nil))))) (fun d hd => by
      obtain ⟨dd, hw, rfl⟩ := mem_doors hd
      exact ⟨_, (.name (.next (.next (.next (.next (.here)))))), fun X A hs => ⟨ts_nil, fun h_2 => ((ed_cat (ed_slice (ed_var (.next (.next (.next (.next (.here))))) hs (by decide +kernel)) eo_none (eo_some ed_int)) (ed_tup (ea_cons (ed_slice (ed_ix (ed_var (.next (.next (.next (.next (.here))))) hs (by decide +kernel)) ed_int (by rfl)) eo_none (eo_some ed_int)) ea_nil)) (Nat.le_of_ble_eq_true rfl)).is (by rfl))⟩⟩)))).is (by rw [doors_cut2])) (.next (.next (.here))) (locN hf hs (by decide +kernel)) ?_
    exact go_out (ed_cat (ed_tup (ea_cons (ed_min A hs ed_int (ed_ix (ed_var .here hs (by decide +kernel)) ed_int (by first | rfl | assumption | decide +kernel))) (ea_cons (ed_ix (ed_var .here hs (by decide +kernel)) ed_int (by first | rfl | assumption | decide +kernel)) (ea_cons (ed_var (.next (.here)) hs (by decide +kernel)) (ea_cons (ed_var (.next (.next (.here))) hs (by decide +kernel)) ea_nil))))) (ed_slice (ed_var .here hs (by decide +kernel)) (eo_some ed_int) eo_none) (Nat.le_of_ble_eq_true rfl)) (by rfl) hD⟩
/-! pens -/
theorem ed_pow {X : Cx} {a b : Expr} {env : Nv} {H : Hp} {pos : Pos} {i j : Int} (ha : EvD X a env H (.int i)) (hb : EvD X b env H (.int j)) (h : CPow i j) : EvD X (.BinOp a .Pow b pos) env H (.int (i ^ j.toNat)) := ed_opI op_pow ha hb h
inductive R_pen : List PyData → List PyData → Prop
  | mk (c : Int) : R_pen [.int c] [.int (max 0 (c - 10 ^ (18 : Int).toNat)), .int (c % 1000000007), .int 0]
theorem sc__law_pen : FnScope ((["_law_cell"] : List Str) ++ ([] : List Str)) ["_law_cell"] (defScope (top 100)) := fnScope_by (by decide +kernel)
instance : HasCal "_law_pen" 1 ["_law_cell"] (SpL R_pen) := ⟨fun P w K mg T => by
  refine Cal.pureL T (i := 100) (more := ([] : List Str)) (List.mem_of_getElem? (i := 49) rfl) (by decide +kernel) sc__law_pen (fun _ _ _ _ _ _ us hl => match us, hl with | [_], _ => rfl) (by decide +kernel) (fun ds r h => by cases h <;> rfl) fun X A hs hf ds r h H D hD => ?_
  cases h with
  | mk i =>
    simp only [nvOf, unM]
    exact go_retL (el_lst (ea_cons (ed_max A hs ed_int (ed_sub (ed_var .here hs (by decide +kernel)) (ed_pow ed_int ed_int ⟨by decide, by decide, by decide⟩))) (ea_cons (ed_mod (ed_var .here hs (by decide +kernel)) ed_int (by omega)) (ea_cons ed_int ea_nil)))) hD⟩
end WK
/-! WKWalker -/
set_option Elab.async false
set_option linter.all false
set_option maxRecDepth 100000
set_option maxHeartbeats 1000000
/-! The walker's methods. -/
namespace WK
open PySem PySem.Spec PyProof.Rows L2
/-- method calls -/
theorem pe_mth {X : Cx} {k k' : Nat} {m n : Str} {ps : List Str} {sp : PySem.W.Frag → Sp} {i : Nat} {e : Expr} {es : List Expr} {env : Nv} {H : Hp} {x : Addr} {o : Expr} {p apos pos : Pos} [hc : HasMeth m k' ps sp] (A : Hs X k) (hk : k' ≤ k) (hm : faB (isMeth "Walker" m) = true) (hp : (e :: es).all plainE = true) {pl : Sem Bool}
    (ht : eval (.Call (.Attribute o m apos) (e :: es) [] pos) X.env = (do
      let ov ← eval o X.env
      standAt apos.atName
      let (f, first) ← holding [ov] (getMethod ov m pl)
      callWith pos f first (backTo pos (starEach (e :: es) X.env)) (backToKw pos (keywordEach [] X.env))) := by rfl) : ∃ E, PE X (.Call (.Attribute o m apos) (e :: es) [] pos) (tMeth (WC X.K) m (sp X.K) [] E (wE X o) (wA X (e :: es))) := by
  obtain ⟨fd, h3, h4, _⟩ := hc.meth X.prog X.w X.K X.mg A.t
  obtain ⟨hp1, hp2⟩ := Bool.and_eq_true_iff.mp hp
  exact ⟨E0, pe_meth (CX := CX0) (pl := pl) pe_w A.t.cls (A.t.meth hm) (h4 X.base) (A.room.mono hk) h3 .nil pass0 pa_w (star_of hp1) (plain_of hp2) ht⟩
theorem pe_mth0 {X : Cx} {k k' : Nat} {m n : Str} {ps : List Str} {sp : PySem.W.Frag → Sp} {i : Nat} {env : Nv} {H : Hp} {x : Addr} {o : Expr} {p apos pos : Pos} [hc : HasMeth m k' ps sp] (A : Hs X k) (hk : k' ≤ k) (hm : faB (isMeth "Walker" m) = true) {pl : Sem Bool}
    (ht : eval (.Call (.Attribute o m apos) [] [] pos) X.env = (do
      let ov ← eval o X.env
      standAt apos.atName
      let (f, first) ← holding [ov] (getMethod ov m pl)
      callWith pos f first (backTo pos (starEach [] X.env)) (backToKw pos (keywordEach [] X.env))) := by rfl) : ∃ E, PE X (.Call (.Attribute o m apos) [] [] pos) (tMeth (WC X.K) m (sp X.K) [] E (wE X o) tNil) := by
  obtain ⟨fd, h3, h4, _⟩ := hc.meth X.prog X.w X.K X.mg A.t
  exact ⟨E0, pe_meth0 (CX := CX0) (pl := pl) pe_w A.t.cls (A.t.meth hm) (h4 X.base) (A.room.mono hk) h3 .nil pass0 ht⟩
/-! ### stand -/
def SpStand (K : PySem.W.Frag) : Sp := fun vs H Q _ => ∃ x pl h hall key n, vs = [V.ref x] ∧ WkAt K H x pl h hall key n ∧ ∀ v H', Ex H H' → Rp H' v (standD hall key) → Q v H'
theorem len_Wstand (K : PySem.W.Frag) : ∀ vs H Q E, SpStand K vs H Q E → vs.length = (["self"] : List Str).length := fun vs H Q E ⟨_, _, _, _, _, _, h, _⟩ => by rw [h]; rfl
theorem sc_Wstand : FnScope ((["self"] : List Str) ++ ([] : List Str)) ["self"] (defScope (inClass (top 97) 8)) := fnScope_by (by decide +kernel)
instance : HasMeth "stand" 1 ["self"] SpStand := ⟨fun P w K mg T => by
  refine Meth.mk' T (m := "stand") (q := "Walker.stand") (st := inClass (top 97) 8) (N := (["self"] : List Str) ++ ([] : List Str)) (List.mem_of_getElem? (i := 71) rfl) sc_Wstand (fun _ _ _ _ _ _ us hl => match us, hl with | [_], _ => rfl) (len_Wstand K) fun X A hK hs hN hf vs H Q E h => ?_
  obtain ⟨x, pl, h, hall, key, n, rfl, w, q⟩ := h
  obtain ⟨dx, vh, vb, vs, vk, past, kept, h1, h2, h3, h4, h5, h6, h7⟩ := w
  refine go_beginS (ss := [.v (.ref x)]) hs hN (.cons rfl .nil) rfl (by decide +kernel) ?_
  subst hK
  exact go_ret (ed_fld A (ev_var .here hs (by decide +kernel)) h1 (look_here ..) h3) q⟩
/-! ### may -/
def mayOf (h : Ho) (hall : Int) (key : List Int) : List Deed := (allDeeds h).filter fun d => isN (bar h hall key d)
def SpMay (K : PySem.W.Frag) : Sp := fun vs H Q _ => ∃ x pl h hall key n, vs = [V.ref x] ∧ WkAt K H x pl h hall key n ∧ HoOk h ∧ KeyOk h.teeth key ∧ ∀ v H', Ex H H' → Rp H' v (.tuple ((mayOf h hall key).map deedD)) → Q v H'
theorem len_Wmay (K : PySem.W.Frag) : ∀ vs H Q E, SpMay K vs H Q E → vs.length = (["self"] : List Str).length := fun vs H Q E ⟨_, _, _, _, _, _, h, _⟩ => by rw [h]; rfl
def unW : PyData → Deed
  | .tuple [.str w, .int i] => if w = "go" then .go i else if w = "file" then .file i else .lift i
  | _ => .go 0
theorem unW_eq (d : Deed) : unW (deedD d) = d := by cases d <;> rfl
theorem may_eq (h : Ho) (hall : Int) (key : List Int) : (((allDeeds h).map deedD).filter fun d => isN (bar h hall key (unW d))).map id = (mayOf h hall key).map deedD := by
  rw [List.map_id, List.filter_map]
  unfold mayOf
  congr 1
  apply List.filter_congr
  intro d _
  show isN (bar h hall key (unW (deedD d))) = _
  rw [unW_eq]
theorem allDeeds_len {h : Ho} (ok : HoOk h) : ((allDeeds h).map deedD).length ≤ 100 := by
  have t1 := ok.teeth
  have t2 := ok.wearsN
  unfold allDeeds
  simp only [List.length_map, List.length_append, List.length_range]
  omega
theorem sc_Wmay : FnScope ((["self"] : List Str) ++ (["deed"] : List Str)) ["self"] (defScope (inClass (top 97) 11)) := fnScope_by (by decide +kernel)
instance : HasMeth "may" 4 ["self"] SpMay := ⟨fun P w K mg T => by
  refine Meth.mk' T (m := "may") (q := "Walker.may") (st := inClass (top 97) 11) (N := (["self"] : List Str) ++ (["deed"] : List Str)) (List.mem_of_getElem? (i := 72) rfl) sc_Wmay (fun _ _ _ _ _ _ us hl => match us, hl with | [_], _ => rfl) (len_Wmay K) fun X A hK hs hN hf vs H Q E h => ?_
  obtain ⟨x, pl, h, hall, key, n, rfl, w, ok, hkk, q⟩ := h
  obtain ⟨dx, vh, vb, vs, vk, past, kept, h1, h2, h3, h4, h5, h6, h7⟩ := w
  refine go_beginS (ss := [.v (.ref x)]) hs hN (.cons rfl .nil) rfl (by decide +kernel) ?_
  subst hK
  simp only [nvS, unM]
  have LL := allDeeds_len ok
  refine gm_ret (M := []) (em_tupL (J := fun d _ => d = .tuple ((mayOf h hall key).map deedD)) A hs (lm_lc (N := ["self", "deed"]) (own := [("deed", 1)]) (fun items i acc _ => items = (allDeeds h).map deedD ∧ acc = (((items.take i).filter fun d => isN (bar h hall key (unW d))).map id)) A hs (M := []) (fun b hb => by cases hb) (im_i (M := []) (JI := fun its _ => its = (allDeeds h).map deedD) (ei_new (el_call A hs (ea_cons (ed_fld A (ev_var .here hs (by decide +kernel)) h1 (look_house ..) h2) ea_nil) (R_all_deeds.mk h ok))) (fun b hb => by cases hb) (fun b hb => by cases hb) (fun _ _ => rfl)) rfl (by decide +kernel) (.keep (by decide +kernel) (by decide) (.drop .nil)) (fun items H1 k1 e => by subst e; exact ⟨by omega, rfl, rfl⟩) (fun _ _ _ _ _ _ _ _ _ h => h) (fun items i d acc Hc hd hP hk => by
      obtain ⟨rfl, rfl⟩ := hP
      obtain ⟨dd, hdd, rfl⟩ := List.mem_map.mp (List.mem_of_getElem? hd)
      have t1 := List.take_add_one (l := (allDeeds h).map deedD) (i := i)
      rw [hd] at t1
      exact ⟨_, (.name (.next (.here))), fun X A hK hs => (tsm_one (tm_t (et_is (ed_call A hs (ea_cons (ed_fld A (ev_var .here hs (by decide +kernel)) (hK ▸ hk.k _ _ (fun z => by cases z) h1) (look_house ..) (h2.mono hk.t)) (ea_cons (ed_fld A (ev_var .here hs (by decide +kernel)) (hK ▸ hk.k _ _ (fun z => by cases z) h1) (look_here ..) (h3.mono hk.t)) (ea_cons (ed_var (.next (.here)) hs (by decide +kernel)) ea_nil))) (R_bar_of.mk h hall key dd ok hkk)) ed_non) fun H5 e5 => (by cases hb : isN (bar h hall key dd) with | true => exact fun X A hK hs => em_d (ed_var (.next (.here)) hs (by decide +kernel)) fun H6 e6 => ⟨rfl, (by rw [t1, List.filter_append, List.map_append]; simp [unW_eq, hb])⟩ | false => exact ⟨rfl, (by rw [t1, List.filter_append, List.map_append]; simp [unW_eq, hb])⟩)))⟩)) fun ds H1 H2 k1 hj e2 => ?_) fun v d H1 k1 hj r => q v H1 (k1.ex fun b hb => by cases hb) (hj ▸ r)
  obtain ⟨its, rfl, rfl⟩ := hj
  rw [List.take_of_length_le (Nat.le_refl _), may_eq]⟩
/-! __init__ -/
def SpInit (K : PySem.W.Frag) : Sp := fun vs H Q _ => ∃ x dx vh vst h hall key, vs = [V.ref x, vh, vst] ∧ H x = some (.ins (WC K) dx []) ∧ Rp H vh (hoD h) ∧ Rp H vst (standD hall key) ∧ HoOk h ∧ HallOk h hall ∧ KeyOk h.teeth key ∧ ∀ pl H', H pl = none → ExL x H H' → WkAt K H' x pl h hall key 0 → Q .non H'
theorem len_Winit (K : PySem.W.Frag) : ∀ vs H Q E, SpInit K vs H Q E → vs.length = (["self", "house", "stand"] : List Str).length := fun vs H Q E ⟨_, _, _, _, _, _, _, h, _⟩ => by rw [h]; rfl
theorem sc_Winit : FnScope ((["self", "house", "stand"] : List Str) ++ ([] : List Str)) ["self", "house", "stand"] (defScope (inClass (top 97) 0)) := fnScope_by (by decide +kernel)
instance : HasMeth "__init__" 11 ["self", "house", "stand"] SpInit := ⟨fun P w K mg T => by
  refine Meth.mk' T (m := "__init__") (q := "Walker.__init__") (st := inClass (top 97) 0) (N := (["self", "house", "stand"] : List Str) ++ ([] : List Str)) (List.mem_of_getElem? (i := 68) rfl) sc_Winit (fun _ _ _ _ _ _ us hl => match us, hl with | [_, _, _], _ => rfl) (len_Winit K) fun X A hK hs hN hf vs H Q E h => ?_
  obtain ⟨x, dx, vh, vst, h, hall, key, rfl, hx, r1, r2, ok, hh, hkk, q⟩ := h
  have hkl : key.length ≤ 1000 := by have := hkk.1; have := ok.teeth; omega
  refine go_beginS (ss := [.v (.ref x), .d (hoD h), .d (standD hall key)]) hs hN (.cons rfl (.cons r1 (.cons r2 .nil))) rfl (by decide +kernel) ?_
  subst hK
  simp only [nvS, unM]
  refine go_expr (ed_call A hs (ea_cons (ed_var (.next (.here)) hs (by decide +kernel)) (ea_cons (ed_var (.next (.next (.here))) hs (by decide +kernel)) ea_nil)) (R_need_stand.mk h hall key ok hh hkk hkl)) ?_
  refine go_attr5 A (ed_var (.next (.here)) hs (by decide +kernel)) (ed_ix (ed_var (.next (.next (.here))) hs (by decide +kernel)) ed_int (by first | rfl | assumption | decide +kernel)) (ed_var (.next (.next (.here))) hs (by decide +kernel)) (ed_tup ea_nil) (el_lst ea_nil) (fun H => ev_var .here hs (by decide +kernel)) (fun H => ev_var .here hs (by decide +kernel)) (fun H => ev_var .here hs (by decide +kernel)) (fun H => ev_var .here hs (by decide +kernel)) (fun H => ev_var .here hs (by decide +kernel)) hx (by rfl) fun v1 v2 v3 v4 l H1 hl x1 w1 q1 q2 q3 q4 q5 => ?_
  exact go_nil fun σ H2 e2 ok2 => q l H2 hl (x1.trans e2.l) ⟨dx, v1, v2, v3, v4, [], [], e2 _ _ w1, q1.mono e2.t, q3.mono e2.t, q4.mono e2.t, Nat.le_refl _, e2 _ _ q5, Nat.le_refl _⟩⟩
/-! turn, where nothing bars -/
theorem sw_attr2 {X : Cx} {o1 o2 : Expr} {f g : Str} {q1 q2 pt pt2 : Pos} {a b : Expr} {kt k2 : Nat} : swappedStores [.Tuple [.Attribute o1 f q1, .Attribute o2 g q2] kt pt] (.Tuple [a, b] k2 pt2) X.env = Pure.pure none := by
  unfold swappedStores
  simp only [pure_bind]
  split
  · rfl
  · split
    · rfl
    · rfl
def SpTurn (K : PySem.W.Frag) : Sp := fun vs H Q _ => ∃ x vr pl h hall key n d, vs = [V.ref x, vr] ∧ WkAt K H x pl h hall key n ∧ Rp H vr (.tuple [deedD d]) ∧ HoOk h ∧ KeyOk h.teeth key ∧ DeedOk h d ∧ isN (bar h hall key d) = true ∧ n ≤ 1000 ∧ ∀ H', Kp [x, pl] H H' → WkAt K H' x pl h (hallBehind h hall d) (doneKey h d key) (n + 1) → Q .non H'
theorem len_Wturn (K : PySem.W.Frag) : ∀ vs H Q E, SpTurn K vs H Q E → vs.length = (["self", "row"] : List Str).length := fun vs H Q E ⟨_, _, _, _, _, _, _, _, h, _⟩ => by rw [h]; rfl
theorem sc_Wturn : FnScope ((["self", "row"] : List Str) ++ ([] : List Str)) ["self", "row"] (defScope (inClass (top 97) 1)) := fnScope_by (by decide +kernel)
instance : HasMeth "turn" 5 ["self", "row"] SpTurn := ⟨fun P w K mg T => by
  refine Meth.mk' T (m := "turn") (q := "Walker.turn") (st := inClass (top 97) 1) (N := (["self", "row"] : List Str) ++ ([] : List Str)) (List.mem_of_getElem? (i := 69) rfl) sc_Wturn (fun _ _ _ _ _ _ us hl => match us, hl with | [_, _], _ => rfl) (len_Wturn K) fun X A hK hs hN hf vs H Q E h => ?_
  obtain ⟨x, vr, pl, h, hall, key, n, d, rfl, w, rr, ok, hkk, hd, hb, hn, q⟩ := h
  obtain ⟨dx, vh, vb, vs, vk, past, kept, h1, h2, h3, h4, h5, h6, h7⟩ := w
  refine go_beginS (ss := [.v (.ref x), .d (.tuple [deedD d])]) hs hN (.cons rfl (.cons rr .nil)) rfl (by decide +kernel) ?_
  subst hK
  simp only [nvS, unM]
  have vx : ∀ H, EvV X (.Name "self" ⟨0, 0, 0, 0⟩) ([("self", .v (.ref x)), ("row", .d (.tuple [deedD d]))] : Nv) H (.ref x) := fun H => ev_var .here hs (by decide +kernel)
  have na := bar_away hb
  have nx : x ≠ pl := fun z => by
    rw [z, h6] at h1
    cases h1
  have hb0 : bar h hall key d = .none := by
    rcases bar_tup h hall key d with hb' | ⟨y, z, hb'⟩
    · exact hb'
    · rw [hb'] at hb
      cases hb
  refine go_when (et_isnt (ed_call A hs (ea_cons (ed_fld A (ev_var .here hs (by decide +kernel)) h1 (look_house ..) h2) (ea_cons (ed_fld A (ev_var .here hs (by decide +kernel)) h1 (look_here ..) h3) (ea_cons (ed_var (.next (.here)) hs (by decide +kernel)) ea_nil))) (R_bar_at.mk h hall key d ok hkk hd)) ed_non) (fun ht => ?_) fun _ => ?_
  · rw [hb0] at ht
    cases ht
  refine go_appV (ev_fld A (ev_var .here hs (by decide +kernel)) h1 (look_past ..)) h6 (ed_tup (ea_cons (ed_fld A (ev_var .here hs (by decide +kernel)) h1 (look_here ..) h3) (ea_cons (ed_fld A (ev_var .here hs (by decide +kernel)) h1 (look_kept ..) h4) ea_nil))) (by omega) fun H1 v x1 rv l1 => ?_
  have g1 := x1 _ _ nx h1
  have t1 : TLe H H1 := x1.t fun xs z => by
    rw [h6] at z
    cases z
  refine go_attr2 A (ed_call A hs (ea_cons (ed_fld A (ev_var .here hs (by decide +kernel)) g1 (look_house ..) (h2.mono t1)) (ea_cons (ed_fld A (ev_var .here hs (by decide +kernel)) g1 (look_here ..) (h3.mono t1)) (ea_cons (ed_var (.next (.here)) hs (by decide +kernel)) ea_nil))) (R_behind_by.mk h hall key d ok hkk hd na)) (ed_cat (ed_fld A (ev_var .here hs (by decide +kernel)) g1 (look_kept ..) (h4.mono t1)) (ed_var (.next (.here)) hs (by decide +kernel)) (by simp; omega)) (fun H => ev_var .here hs (by decide +kernel)) (fun H => ev_var .here hs (by decide +kernel)) g1 (by rfl) (fun v1 v2 H2 x2 w2 r1 r2 => ?_) (hw := sw_attr2)
  have l2 := x2 _ _ nx.symm l1
  have t2 : TLe H1 H2 := x2.t fun xs z => by
    rw [g1] at z
    cases z
  refine go_nil fun σ H3 e3 ok3 => q H3 ⟨(t1.trans t2).trans e3.t, fun b o nb z => e3 _ _ (x2 b o (fun w => nb (by rw [w]; exact List.mem_cons_self)) (x1 b o (fun w => nb (by rw [w]; exact List.mem_cons_of_mem _ List.mem_cons_self)) z)), fun b hb => ?_⟩ ⟨dx, vh, vb, v1, v2, _, _, e3 _ _ w2, ((h2.mono t1).mono t2).mono e3.t, r1.mono e3.t, r2.mono e3.t, by simp; omega, e3 _ _ l2, by simp; omega⟩
  have hb2 := e3.back hb
  by_cases z1 : b = x
  · rw [z1, w2] at hb2
    cases hb2
  · by_cases z2 : b = pl
    · rw [z2, l2] at hb2
      cases hb2
    · cases z : H b with
      | none => rfl
      | some o =>
        rw [x2 b o z1 (x1 b o z2 z)] at hb2
        cases hb2⟩
/-- x.m(row), where nothing bars -/
theorem em_turn {X : Cx} {k k' : Nat} {M : List Addr} {m : Str} {ps : List Str} {o e : Expr} {env : Nv} {H : Hp} {x pl : Addr} {h : Ho} {hall : Int} {key : List Int} {n : Nat} {d : Deed} {pos apos : Pos} {J : PyData → Hp → Prop} [hc : HasMeth m k' ps SpTurn] (A : Hs X k) (hv : EvV X o env H (.ref x)) (ha : EvD X e env H (.tuple [deedD d])) (w : WkAt X.K H x pl h hall key n) (ok : HoOk h) (hk : KeyOk h.teeth key) (hd : DeedOk h d) (hb : isN (bar h hall key d) = true) (hn : n ≤ 1000) (mx : x ∈ M) (ml : pl ∈ M)
    (q : ∀ H', Kp [x, pl] H H' → WkAt X.K H' x pl h (hallBehind h hall d) (doneKey h d key) (n + 1) → J .none H') (hkk : k' ≤ k := by decide) (hm : faB (isMeth "Walker" m) = true := by decide +kernel) (hnf : notFld m = true := by decide +kernel) (hp : plainE e = true := by rfl) {pl' : Sem Bool}
    (ht : eval (.Call (.Attribute o m apos) [e] [] pos) X.env = (do
      let ov ← eval o X.env
      standAt apos.atName
      let (f, first) ← holding [ov] (getMethod ov m pl')
      callWith pos f first (backTo pos (starEach [e] X.env)) (backToKw pos (keywordEach [] X.env))) := by rfl) : EvM X M (.Call (.Attribute o m apos) [e] [] pos) env H J := ⟨fun σ H1 e0 okn Q kk => by
  obtain ⟨E, hpe⟩ := pe_mth (n := m) (i := 0) (env := env) (H := H) (x := x) (p := pos) (hc := hc) A hkk hm (by rw [List.all_cons, hp]; rfl) ht
  refine ⟨_, hpe, hv.run σ H1 e0 okn _ fun H2 e2 => ?_⟩
  have w2 := w.ex (e0.trans e2)
  obtain ⟨dx, vh, vb, vs, vk, past, kept, h1, _⟩ := id w2
  refine ⟨x, dx, _, rfl, h1, look_none _ _ _ _ _ hnf, ⟨_, pa_cons pe_w pa_nil (star_of hp), ha.run σ H2 (e0.trans e2) (okn.mono e2.t) _ fun v H3 e3 r => ?_⟩⟩
  show SpTurn X.K (.ref x :: ([v] ++ [])) H3 Q E
  refine ⟨x, v, pl, h, hall, key, n, d, rfl, w2.ex e3, r, ok, hk, hd, hb, hn, fun H' k1 w3 => ?_⟩
  refine kk .non .none H' (((e2.trans e3).kp).trans (k1.sub fun b hb => ?_)) (q H' ((((e0.trans e2).trans e3).kp).trans k1) w3) .non
  rcases List.mem_cons.mp hb with rfl | hb
  · exact mx
  · obtain rfl : b = pl := by simpa using hb
    exact ml⟩
theorem len_Wplay (K : PySem.W.Frag) : ∀ vs H Q E, SpTurn K vs H Q E → vs.length = (["self", "row"] : List Str).length := len_Wturn K
theorem sc_Wplay : FnScope ((["self", "row"] : List Str) ++ ([] : List Str)) ["self", "row"] (defScope (inClass (top 97) 6)) := fnScope_by (by decide +kernel)
instance : HasMeth "play" 6 ["self", "row"] SpTurn := ⟨fun P w K mg T => by
  refine Meth.mk' T (m := "play") (q := "Walker.play") (st := inClass (top 97) 6) (N := (["self", "row"] : List Str) ++ ([] : List Str)) (List.mem_of_getElem? (i := 70) rfl) sc_Wplay (fun _ _ _ _ _ _ us hl => match us, hl with | [_, _], _ => rfl) (len_Wplay K) fun X A hK hs hN hf vs H Q E h => ?_
  obtain ⟨x, vr, pl, h, hall, key, n, d, rfl, w, rr, ok, hkk, hd, hb, hn, q⟩ := h
  refine go_beginS (ss := [.v (.ref x), .d (.tuple [deedD d])]) hs hN (.cons rfl (.cons rr .nil)) rfl (by decide +kernel) ?_
  subst hK
  simp only [nvS, unM]
  obtain ⟨dx, vh, vb, vs, vk, past, kept, h1, h2, _⟩ := id w
  refine go_expr (ed_call A hs (ea_cons (ed_fld A (ev_var .here hs (by decide +kernel)) h1 (look_house ..) h2) (ea_cons (ed_var (.next (.here)) hs (by decide +kernel)) ea_nil)) (R_need_row.mk h d hd)) ?_
  refine gm_expr (em_turn (m := "turn") (M := [x, pl]) (J := fun _ H' => Kp [x, pl] H H' ∧ WkAt X.K H' x pl h (hallBehind h hall d) (doneKey h d key) (n + 1)) A (ev_var .here hs (by decide +kernel)) (ed_var (.next (.here)) hs (by decide +kernel)) w ok hkk hd hb hn List.mem_cons_self (List.mem_cons_of_mem _ List.mem_cons_self) fun H' k1 w1 => ⟨k1, w1⟩) fun dd H1 k1 hj => go_nil fun σ H2 e2 ok2 => q H2 (hj.1.trans e2.kp) (hj.2.ex e2)⟩
end WK
/-! WKMake -/
set_option Elab.async false
set_option linter.all false
set_option maxRecDepth 100000
set_option maxHeartbeats 1000000
/-! The walker, asked from outside. -/
namespace WK
open PySem PySem.Spec PyProof.Rows L2
section
variable {X : Cx} {k : Nat} {o e : Expr} {env : Nv} {H : Hp} {x pl : Addr} {h : Ho} {hall : Int} {key : List Int} {n : Nat} {pos apos p : Pos} {sc : Scope}
theorem ed_stand (A : Hs X k) (hv : EvV X o env H (.ref x)) (w : WkAt X.K H x pl h hall key n) (hkk : 1 ≤ k := by decide) {pl' : Sem Bool}
    (ht : eval (.Call (.Attribute o "stand" apos) [] [] pos) X.env = (do
      let ov ← eval o X.env
      standAt apos.atName
      let (f, first) ← holding [ov] (getMethod ov "stand" pl')
      callWith pos f first (backTo pos (starEach [] X.env)) (backToKw pos (keywordEach [] X.env))) := by rfl) : EvD X (.Call (.Attribute o "stand" apos) [] [] pos) env H (standD hall key) := ⟨fun σ H1 e0 okn Q kk => by
  obtain ⟨E, hpe⟩ := pe_mth0 (m := "stand") (sp := SpStand) (n := "stand") (i := 0) (env := env) (H := H) (x := x) (p := pos) A hkk (by decide +kernel) ht
  refine ⟨_, hpe, hv.run σ H1 e0 okn _ fun H2 e2 => ?_⟩
  have w2 := w.ex (e0.trans e2)
  obtain ⟨dx, vh, vb, vs, vk, past, kept, h1, _⟩ := id w2
  refine ⟨x, dx, _, rfl, h1, look_none _ _ _ _ _ (by decide +kernel), ?_⟩
  show SpStand X.K [.ref x] H2 Q E
  exact ⟨x, pl, h, hall, key, n, rfl, w2, fun v H' e3 r => kk v H' (e2.trans e3) r⟩⟩
theorem ed_may (A : Hs X k) (hv : EvV X o env H (.ref x)) (w : WkAt X.K H x pl h hall key n) (ok : HoOk h) (hk : KeyOk h.teeth key) (hkk : 4 ≤ k := by decide) {pl' : Sem Bool}
    (ht : eval (.Call (.Attribute o "may" apos) [] [] pos) X.env = (do
      let ov ← eval o X.env
      standAt apos.atName
      let (f, first) ← holding [ov] (getMethod ov "may" pl')
      callWith pos f first (backTo pos (starEach [] X.env)) (backToKw pos (keywordEach [] X.env))) := by rfl) : EvD X (.Call (.Attribute o "may" apos) [] [] pos) env H (.tuple ((mayOf h hall key).map deedD)) := ⟨fun σ H1 e0 okn Q kk => by
  obtain ⟨E, hpe⟩ := pe_mth0 (m := "may") (sp := SpMay) (n := "may") (i := 0) (env := env) (H := H) (x := x) (p := pos) A hkk (by decide +kernel) ht
  refine ⟨_, hpe, hv.run σ H1 e0 okn _ fun H2 e2 => ?_⟩
  have w2 := w.ex (e0.trans e2)
  obtain ⟨dx, vh, vb, vs, vk, past, kept, h1, _⟩ := id w2
  refine ⟨x, dx, _, rfl, h1, look_none _ _ _ _ _ (by decide +kernel), ?_⟩
  show SpMay X.K [.ref x] H2 Q E
  exact ⟨x, pl, h, hall, key, n, rfl, w2, ok, hk, fun v H' e3 r => kk v H' (e2.trans e3) r⟩⟩
/-- it gives a new walker -/
structure EvW2 (X : Cx) (e : Expr) (env : Nv) (H : Hp) (h : Ho) (hall : Int) (key : List Int) : Prop where
  run : ∀ σ H1, Ex H H1 → NvOk X H1 σ env → ∀ Q : VK, (∀ x pl H2, H1 x = none → H1 pl = none → Ex H1 H2 → WkAt X.K H2 x pl h hall key 0 → Q (.ref x) H2) → wE X e σ H1 Q
theorem ew_make {a b : Expr} (A : Hs X k) (hs : X.env.scope = sc) (ha : EvD X a env H (hoD h)) (hb : EvD X b env H (standD hall key)) (ok : HoOk h) (hh : HallOk h hall) (hk : KeyOk h.teeth key) (hg : glB sc "Walker" = true := by decide +kernel) (hkk : 12 ≤ k := by decide) (hp : plainE a = true := by rfl) (hp2 : plainE b = true := by rfl) :
    EvW2 X (.Call (.Name "Walker" p) [a, b] [] pos) env H h hall key := ⟨fun σ H1 e0 okn Q kk => by
  obtain ⟨fd, h3, h4, _⟩ := (inferInstance : HasMeth "__init__" 11 ["self", "house", "stand"] SpInit).meth X.prog X.w X.K X.mg A.t
  refine ⟨_, pe_make (CX := CX0) (E := E0) A.t.mkr (h4 X.base) (A.room.mono hkk) (gl_of hs hg) (A.t.glo (by decide +kernel)) h3 .nil pass0 pa_w (gl_db hg) (star_of hp) (plain_of (by rw [List.all_cons, hp2]; rfl)), (ea_cons ha (ea_cons hb ea_nil hp2) hp).run σ H1 e0 okn _ fun vs H2 e2 r => ?_⟩
  intro x dx hx hdx hne
  cases r with
  | cons r1 r =>
  cases r with
  | cons r2 r =>
  cases r
  have n1 := Ex.new (o := .own x) hdx
  have n2 : Ex (upd H2 dx (.own x)) (upd (upd H2 dx (.own x)) x (.ins (WC X.K) dx [])) := Ex.new (by rw [upd_ne hne.symm]; exact hx)
  have n3 := n1.trans n2
  refine ⟨x, dx, _, _, h, hall, key, rfl, upd_same, r1.mono n3.t, r2.mono n3.t, ok, hh, hk, fun pl H' hpl xl w => ⟨rfl, ?_⟩⟩
  have hpl2 := n3.back hpl
  refine kk x pl H' (e2.back hx) (e2.back hpl2) (e2.trans fun b o z => ?_) w
  exact xl b o (ne_of_none z hx) (n3 _ _ z)⟩
end
end WK
/-! WKDoor -/
set_option Elab.async false
set_option linter.all false
set_option maxRecDepth 100000
set_option maxHeartbeats 1000000
/-! Lists against []; doors. -/
namespace WK
open PySem PySem.Spec PyProof.Rows L2
structure Lay (n : Nat) (d : PyData) : Prop where
  c : d.canLay0 = true
  d : d.depth ≤ n
theorem Lay.le {n m : Nat} {d : PyData} (h : Lay n d) (e : n ≤ m) : Lay m d := ⟨h.c, Nat.le_trans h.d e⟩
theorem lay_int {i : Int} {n : Nat} : Lay n (.int i) := ⟨rfl, Nat.zero_le _⟩
theorem lay_all {n : Nat} : ∀ {ds : List PyData}, (∀ d ∈ ds, Lay n d) → PyData.canLayAll0 ds = true ∧ PyData.depthAll ds ≤ n
  | [], _ => ⟨rfl, Nat.zero_le _⟩
  | d :: ds, h => by
    obtain ⟨h1, h2⟩ := lay_all (ds := ds) fun x hx => h x (List.mem_cons_of_mem _ hx)
    have h3 := h d List.mem_cons_self
    refine ⟨?_, ?_⟩
    · rw [PyData.canLayAll0, h1, h3.c]
      rfl
    · rw [PyData.depthAll]
      exact Nat.max_le.mpr ⟨h3.d, h2⟩
theorem lay_tup {n : Nat} {ds : List PyData} (h : ∀ d ∈ ds, Lay n d) : Lay (n + 1) (.tuple ds) := by
  obtain ⟨h1, h2⟩ := lay_all h
  exact ⟨by rw [PyData.canLay0]; exact h1, by rw [PyData.depth]; omega⟩
theorem lay_list {n : Nat} {ds : List PyData} (h : ∀ d ∈ ds, Lay n d) : Lay (n + 1) (.list ds) := by
  obtain ⟨h1, h2⟩ := lay_all h
  exact ⟨by rw [PyData.canLay0]; exact h1, by rw [PyData.depth]; omega⟩
theorem Lay.shaped {d : PyData} (h : Lay 64 d) : SeqAt.shaped d = true := by
  unfold SeqAt.shaped
  rw [h.c, decide_eq_true h.d]
  rfl
theorem lay_zD {l : List Int} {n : Nat} : ∀ d ∈ zD l, Lay n d := fun d hd => by
  obtain ⟨i, _, rfl⟩ := mem_zD hd
  exact lay_int
theorem lay_key {l : List Int} : Lay 1 (kD l) := lay_tup (n := 0) lay_zD
theorem lay_gap {g : Int × Int} : Lay 1 (gD g) := lay_tup (n := 0) (ds := [.int g.1, .int g.2]) fun d hd => by
  simp at hd
  rcases hd with rfl | rfl <;> exact lay_int
theorem lay_box {b : List (Int × Int)} : Lay 2 (bD b) := lay_tup (n := 1) fun d hd => by
  obtain ⟨g, _, rfl⟩ := List.mem_map.mp hd
  exact lay_gap
theorem lay_door {d : Door} : Lay 3 (doorD d) := lay_tup (n := 2) (ds := [.int d.hall, .int d.letter, .int d.to, bD d.gaps]) fun x hx => by
  simp at hx
  rcases hx with rfl | rfl | rfl | rfl
  · exact lay_int
  · exact lay_int
  · exact lay_int
  · exact lay_box
theorem Lst.dp {K : PySem.W.Frag} {H : Hp} {l : Addr} {ds : List PyData} (h : Lst H l ds) : Dp K H (.ref l) (.list ds) := by
  obtain ⟨vs, h1, h2⟩ := h
  exact .lst (SqL.of h1) h2.dp
section
variable {X : Cx} {k : Nat} {a b : Expr} {env : Nv} {H : Hp} {ds ys : List PyData} {pos : Pos}
theorem et_neL (A : Hs X k) (ha : EvR X a env H ds) (hb : EvR X b env H ys) (sx : SeqAt.shaped (.list ds) = true) (sy : SeqAt.shaped (.list ys) = true) : EvT X (.Compare a [.NotEq] [b] pos) env H (!PyData.eqv (.list ds) (.list ys)) := ⟨fun σ H1 e0 ok Q q =>
  ⟨_, pt_cmpR (op_neD A.units) pe_w pe_w (nomark _), ha.run σ H1 e0 ok _ fun l H2 e2 r2 => hb.run σ H2 (e0.trans e2) (ok.mono e2.t) _ fun m H3 e3 r3 =>
    ⟨.list ds, .list ys, (r2.ex e3).dp, r3.dp, sx, sy, _, rfl, q H3 (e2.trans e3)⟩⟩⟩
theorem et_eqL (A : Hs X k) (ha : EvR X a env H ds) (hb : EvR X b env H ys) (sx : SeqAt.shaped (.list ds) = true) (sy : SeqAt.shaped (.list ys) = true) : EvT X (.Compare a [.Eq] [b] pos) env H (PyData.eqv (.list ds) (.list ys)) := ⟨fun σ H1 e0 ok Q q =>
  ⟨_, pt_cmpR (op_eqD A.units) pe_w pe_w (nomark _), ha.run σ H1 e0 ok _ fun l H2 e2 r2 => hb.run σ H2 (e0.trans e2) (ok.mono e2.t) _ fun m H3 e3 r3 =>
    ⟨.list ds, .list ys, (r2.ex e3).dp, r3.dp, sx, sy, _, rfl, q H3 (e2.trans e3)⟩⟩⟩
end
theorem eqv_nilL : ∀ ds : List PyData, PyData.eqv (.list ds) (.list []) = ds.isEmpty
  | [] => rfl
  | _ :: _ => rfl
theorem eqv_nilT : ∀ ds : List PyData, PyData.eqv (.tuple ds) (.tuple []) = ds.isEmpty
  | [] => rfl
  | _ :: _ => rfl
/-! _law_door -/
def doorsAt (h : Ho) (hall l : Int) : List Door := h.doors.filter fun d => decide (d.hall = hall) && decide (d.letter = l)
def optDoor : List Door → PyData
  | [] => .none
  | d :: _ => doorD d
def isDr (hall l : Int) : PyData → Bool
  | .tuple [.int h, .int t, _, _] => decide (h = hall) && decide (t = l)
  | _ => false
theorem dr_map (h : Ho) (hall l : Int) : ((h.doors.map doorD).filter (isDr hall l)).map id = (doorsAt h hall l).map doorD := by
  rw [List.map_id, List.filter_map]
  rfl
theorem atI_zero (x : PyData) (r : List PyData) : atI (x :: r) 0 = some x := by
  show atI (x :: r) ((0 : Nat) : Int) = _
  unfold atI
  rw [ixN_ofNat (by simp)]
  rfl
inductive R_ldoor : List PyData → PyData → Prop
  | mk (h : Ho) (hall l : Int) (ok : h.doors.length ≤ 10) : R_ldoor [hoD h, .int hall, .int l] (optDoor (doorsAt h hall l))
theorem eqv_int (i j : Int) : PyData.eqv (.int i) (.int j) = decide (i = j) := by
  by_cases h : i = j
  · subst h
    simp [PyData.eqv]
  · simp [PyData.eqv, h]
theorem sc__law_door : FnScope ((["_law_house_here", "_law_hall", "_law_letter"] : List Str) ++ (["_law_some", "_law_door_here"] : List Str)) ["_law_house_here", "_law_hall", "_law_letter"] (defScope (top 110)) := fnScope_by (by decide +kernel)
instance : HasCal "_law_door" 1 ["_law_house_here", "_law_hall", "_law_letter"] (SpD R_ldoor) := ⟨fun P w K mg T => by
  refine Cal.pure T (i := 110) (more := (["_law_some", "_law_door_here"] : List Str)) (List.mem_of_getElem? (i := 59) rfl) (by decide +kernel) sc__law_door (fun _ _ _ _ _ _ us hl => match us, hl with | [_, _, _], _ => rfl) (by decide +kernel) (fun ds r h => by cases h <;> rfl) fun X A hs hf ds r h H D hD => ?_
  cases h with
  | mk h hall l ok =>
    simp only [nvOf, unM]
    refine (go_setLc (N := ["_law_house_here", "_law_hall", "_law_letter", "_law_some", "_law_door_here"]) (own := [("_law_door_here", 4)]) (isDr hall l) id A hs (ei_tup (ed_ix (ed_var .here hs (by decide +kernel)) ed_int (by first | rfl | assumption | decide +kernel))) (by rw [List.length_map]; omega) rfl (by decide +kernel) (.drop (.keep (by decide +kernel) (by decide) (.keep (by decide +kernel) (by decide) (.drop (.drop .nil))))) (fun d hd => by
      obtain ⟨dd, hw, rfl⟩ := mem_doors hd
      exact ⟨_, (.name (.next (.next (.next (.next (.here)))))), fun X A hs => ⟨(ts_one ((et_bool (ew_and (et_eq A (ed_ix (ed_var (.next (.next (.next (.next (.here))))) hs (by decide +kernel)) ed_int (by first | rfl | assumption | decide +kernel)) (ed_var (.next (.here)) hs (by decide +kernel)) (by first | rfl | assumption | decide +kernel) (by first | rfl | assumption | decide +kernel)) (fun h_1 => (ew_and1 (et_eq A (ed_ix (ed_var (.next (.next (.next (.next (.here))))) hs (by decide +kernel)) ed_int (by first | rfl | assumption | decide +kernel)) (ed_var (.next (.next (.here))) hs (by decide +kernel)) (by first | rfl | assumption | decide +kernel) (by first | rfl | assumption | decide +kernel)))))).is (by simp only [eqv_int]; rfl))), fun h_2 => (ed_var (.next (.next (.next (.next (.here))))) hs (by decide +kernel))⟩⟩) (fun _ => (.next (.next (.next (.here))))) (by decide +kernel) fun a H1 hn e1 L1 => ?_)
    rw [dr_map] at L1
    have sx : SeqAt.shaped (.list ((doorsAt h hall l).map doorD)) = true := ((lay_list (n := 3) fun d hd => by
      obtain ⟨dd, _, rfl⟩ := mem_doors hd
      exact lay_door).le (by decide)).shaped
    cases hd : doorsAt h hall l with
    | nil =>
      rw [hd] at sx L1
      exact go_outX (ed_ifF (et_neL A (EvV.r (ev_var (.next (.next (.next (.here)))) hs (by decide +kernel)) L1) (EvL.r (el_lst ea_nil)) sx (by decide)) rfl ed_non) (by rw [hd]; rfl) hD e1
    | cons dd r =>
      rw [hd] at sx L1
      exact go_outX (ed_ifT (et_neL A (EvV.r (ev_var (.next (.next (.next (.here)))) hs (by decide +kernel)) L1) (EvL.r (el_lst ea_nil)) sx (by decide)) (by rw [eqv_nilL]; rfl) (ed_ixR (d := doorD dd) (EvV.r (ev_var (.next (.next (.next (.here)))) hs (by decide +kernel)) L1) ed_int (atI_zero _ _))) (by rw [hd]; rfl) hD e1⟩
end WK
/-! WKBehind -/
set_option Elab.async false
set_option linter.all false
set_option maxRecDepth 100000
set_option maxHeartbeats 1000000
/-! behind a door -/
namespace WK
open PySem PySem.Spec PyProof.Rows L2
def outT : PyData → Bool
  | .tuple [.int x, .tuple [.int lo, .int hi]] => !(decide (lo ≤ x) && decide (x ≤ hi))
  | _ => false
theorem mem_zipK {b : List (Int × Int)} {k : List Int} {d : PyData} (h : d ∈ zipD (zD k) (b.map gD)) : ∃ (x : Int) (g : Int × Int), d = .tuple [.int x, .tuple [.int g.1, .int g.2]] := by
  obtain ⟨i, hi⟩ := List.mem_iff_getElem?.mp h
  unfold zipD at hi
  rw [List.getElem?_zipWith] at hi
  unfold zD at hi
  rw [List.getElem?_map, List.getElem?_map] at hi
  cases e1 : b[i]? with
  | none =>
    rw [e1] at hi
    cases e2 : k[i]? with
    | none => rw [e2] at hi; cases hi
    | some x => rw [e2] at hi; cases hi
  | some g =>
    cases e2 : k[i]? with
    | none => rw [e1, e2] at hi; cases hi
    | some x =>
      rw [e1, e2] at hi
      exact ⟨x, g, (Option.some.inj hi).symm⟩
theorem out_eq : ∀ (b : List (Int × Int)) (key : List Int), ((zipD (zD key) (b.map gD)).filter outT).isEmpty = inB b key
  | [], key => by cases key <;> rfl
  | g :: b, [] => rfl
  | g :: b, x :: k => by
    have ih := out_eq b k
    show (((PyData.tuple [.int x, gD g]) :: zipD (zD k) (b.map gD)).filter outT).isEmpty = ((decide (g.1 ≤ x) && decide (x ≤ g.2)) && inB b k)
    rw [List.filter_cons]
    show (if (!(decide (g.1 ≤ x) && decide (x ≤ g.2))) = true then _ else _ : List PyData).isEmpty = _
    cases decide (g.1 ≤ x) && decide (x ≤ g.2) with
    | true => rw [if_neg (by decide), ih]; rfl
    | false => rw [if_pos (by rfl)]; rfl
/-- does l's door let key by -/
def opens (h : Ho) (hall l : Int) (key : List Int) : Bool := match doorsAt h hall l with
  | [] => false
  | d :: _ => inB d.gaps key
def wearF : PyData → PyData
  | .tuple [.int x, .int y] => .int (max 0 (x - y))
  | d => d
def SpBehind : Sp := fun vs H Q _ => ∃ (h : Ho) (hall : Int) (key : List Int) (l : Int), HoOk h ∧ KeyOk h.teeth key ∧ (0 ≤ l ∧ l < h.wears.length) ∧ RpA H vs [hoD h, standD hall key, .tuple [.str "go", .int l]] ∧ ∀ v d H', Ex H H' → Rp H' v d → isN d = (!opens h hall l key) → Q v H'
theorem len__law_behind : ∀ vs H Q E, SpBehind vs H Q E → vs.length = (["_law_house_here", "_law_stand_here", "_law_deed"] : List Str).length := fun vs H Q E ⟨_, _, _, _, _, _, _, r, _⟩ => r.len
theorem sw_tup2 {X : Cx} {ts1 ts2 : List Expr} {k3 k4 : Nat} {q1 q2 pt pt2 : Pos} {a b : Expr} {kt k2 : Nat} : swappedStores [.Tuple [.Tuple ts1 k3 q1, .Tuple ts2 k4 q2] kt pt] (.Tuple [a, b] k2 pt2) X.env = Pure.pure none := by
  unfold swappedStores
  simp only [pure_bind]
  split
  · rfl
  · split
    · rfl
    · rfl
theorem sc__law_behind : FnScope ((["_law_house_here", "_law_stand_here", "_law_deed"] : List Str) ++ (["_law_hall", "_law_key_here", "_law_word_here", "_law_at", "_law_door_here", "_law_able", "_law_by", "_law_smiths", "_law_smith", "_law_one", "_law_low", "_law_high", "_law_less_here"] : List Str)) ["_law_house_here", "_law_stand_here", "_law_deed"] (defScope (top 111)) := fnScope_by (by decide +kernel)
instance : HasCal "_law_behind" 2 ["_law_house_here", "_law_stand_here", "_law_deed"] SpBehind := ⟨fun P w K mg T => by
  refine Cal.mk' T (i := 111) (N := (["_law_house_here", "_law_stand_here", "_law_deed"] : List Str) ++ (["_law_hall", "_law_key_here", "_law_word_here", "_law_at", "_law_door_here", "_law_able", "_law_by", "_law_smiths", "_law_smith", "_law_one", "_law_low", "_law_high", "_law_less_here"] : List Str)) (List.mem_of_getElem? (i := 60) rfl) (by decide +kernel) sc__law_behind (fun _ _ _ _ _ _ us hl => match us, hl with | [_, _, _], _ => rfl) len__law_behind fun X A hs hN hf vs H Q E h => ?_
  obtain ⟨h, hall, key, l, ok, hk, hl, ra, q⟩ := h
  cases ra with
  | cons r1 ra =>
  cases ra with
  | cons r2 ra =>
  cases ra with
  | cons r3 ra =>
  cases ra
  have t1 := ok.teeth
  refine go_beginS (ss := [.d (hoD h), .d (standD hall key), .d (.tuple [.str "go", .int l])]) hs hN (.cons r1 (.cons r2 (.cons r3 .nil))) rfl (by decide +kernel) ?_
  simp only [nvS, unM]
  refine go_unp A (ed_tup (ea_cons (ed_var (.next (.here)) hs (by decide +kernel)) (ea_cons (ed_var (.next (.next (.here))) hs (by decide +kernel)) ea_nil))) (.tup (.cons (.tup (.cons (.name (.next (.next (.next (.here))))) (.cons (.name (.next (.next (.next (.next (.here)))))) .nil))) (.cons (.tup (.cons (.name (.next (.next (.next (.next (.next (.here))))))) (.cons (.name (.next (.next (.next (.next (.next (.next (.here)))))))) .nil))) .nil))) (fun q hq => locN hf hs (by simp at hq; rcases hq with rfl | rfl | rfl | rfl <;> decide +kernel)) ?_ (hw := sw_tup2)
  refine go_when (et_eq A (ed_var (.next (.next (.next (.next (.next (.here)))))) hs (by decide +kernel)) ed_str (by first | rfl | assumption | decide +kernel) (by first | rfl | assumption | decide +kernel)) (fun _ => ?_) (fun ht => ?_)
  rotate_left
  · exact absurd ht (by decide)
  have hop : opens h hall l key = match doorsAt h hall l with
    | [] => false
    | d :: _ => inB d.gaps key := rfl
  refine go_set A (ed_call A hs (ea_cons (ed_var .here hs (by decide +kernel)) (ea_cons (ed_var (.next (.next (.next (.here)))) hs (by decide +kernel)) (ea_cons (ed_var (.next (.next (.next (.next (.next (.next (.here))))))) hs (by decide +kernel)) ea_nil))) (R_ldoor.mk h hall l ok.doorsN)) (.next (.next (.next (.next (.next (.next (.next (.here)))))))) (locN hf hs (by decide +kernel)) ?_
  cases hd : doorsAt h hall l with
  | nil =>
    rw [hd] at hop
    exact go_when (et_is (ed_var (.next (.next (.next (.next (.next (.next (.next (.here)))))))) hs (by decide +kernel)) ed_non) (fun _ => go_ret ed_non fun v H1 e1 r => q v _ H1 e1 r (by rw [hop]; rfl)) (fun ht => by cases ht)
  | cons dd r =>
    rw [hd] at hop
    have hdd : DoorOk h.teeth h.halls h.wears.length dd := ok.doors dd (List.mem_filter.mp (show dd ∈ doorsAt h hall l by rw [hd]; exact List.mem_cons_self)).1
    have hgl := hdd.gaps.1
    have hkl := hk.1
    refine go_when (et_is (ed_var (.next (.next (.next (.next (.next (.next (.next (.here)))))))) hs (by decide +kernel)) ed_non) (fun ht => by cases ht) (fun _ => ?_)
    refine go_when ((et_neL A (EvL.r (el_lc (N := ["_law_house_here", "_law_stand_here", "_law_deed", "_law_hall", "_law_key_here", "_law_word_here", "_law_at", "_law_door_here", "_law_able", "_law_by", "_law_smiths", "_law_smith", "_law_one", "_law_low", "_law_high", "_law_less_here"]) (own := [("_law_one", 12), ("_law_low", 13), ("_law_high", 14)]) outT (fun _ => .int 1) A hs (ei_zip A hs (by decide +kernel) (ed_var (.next (.next (.next (.next (.here))))) hs (by decide +kernel)) (ed_ix (ds := [.int dd.hall, .int dd.letter, .int dd.to, bD dd.gaps]) (ed_var (.next (.next (.next (.next (.next (.next (.next (.here)))))))) hs (by decide +kernel)) ed_int (by rfl))) (by unfold zipD; rw [List.length_zipWith, zD_len]; omega) rfl (by decide +kernel) (.drop (.drop (.drop (.drop (.drop (.drop (.drop (.drop (.drop (.drop (.drop (.drop (.drop (.drop (.drop (.drop .nil)))))))))))))))) (fun d hd => by
      obtain ⟨x, g, rfl⟩ := mem_zipK hd
      exact ⟨_, (.tup (.cons (.name (.next (.next (.next (.next (.next (.next (.next (.next (.next (.next (.next (.next (.here)))))))))))))) (.cons (.tup (.cons (.name (.next (.next (.next (.next (.next (.next (.next (.next (.next (.next (.next (.next (.next (.here))))))))))))))) (.cons (.name (.next (.next (.next (.next (.next (.next (.next (.next (.next (.next (.next (.next (.next (.next (.here)))))))))))))))) .nil))) .nil))), fun X A hs => ⟨(ts_one (et_not (et_chain (ed_var (.next (.next (.next (.next (.next (.next (.next (.next (.next (.next (.next (.next (.next (.here)))))))))))))) hs (by decide +kernel)) (ed_var (.next (.next (.next (.next (.next (.next (.next (.next (.next (.next (.next (.next (.here))))))))))))) hs (by decide +kernel)) (ed_var (.next (.next (.next (.next (.next (.next (.next (.next (.next (.next (.next (.next (.next (.next (.here))))))))))))))) hs (by decide +kernel))))), fun h_1 => ed_int⟩⟩))) (EvL.r (el_lst ea_nil)) ?_ (by decide))) (fun ht => ?_) (fun ht => ?_)
    · exact ((lay_list (n := 0) fun d hd => by
        obtain ⟨_, _, rfl⟩ := List.mem_map.mp hd
        exact lay_int).le (by decide)).shaped
    · rw [eqv_nilL, List.isEmpty_map, out_eq] at ht
      exact go_ret ed_non fun v H1 e1 r => q v _ H1 e1 r (by rw [hop]; exact ht.symm)
    · rw [eqv_nilL, List.isEmpty_map, out_eq] at ht
      have hin : inB dd.gaps key = true := by simpa using ht
      obtain ⟨j, rfl⟩ := Int.eq_ofNat_of_zero_le hl.1
      have hj : j < h.wears.length := by omega
      have hw : atI (h.wears.map kD) (j : Int) = some (kD h.wears[j]) := by
        unfold atI
        rw [ixN_ofNat (by rw [List.length_map]; exact hj)]
        show (h.wears.map kD)[j]? = _
        rw [List.getElem?_map, List.getElem?_eq_getElem hj]
        rfl
      exact go_ret (ed_tup (ea_cons (ed_ix (ds := [.int dd.hall, .int dd.letter, .int dd.to, bD dd.gaps]) (ed_var (.next (.next (.next (.next (.next (.next (.next (.here)))))))) hs (by decide +kernel)) ed_int (by rfl)) (ea_cons (ed_tupL A hs (EvL.r (el_lc (N := ["_law_house_here", "_law_stand_here", "_law_deed", "_law_hall", "_law_key_here", "_law_word_here", "_law_at", "_law_door_here", "_law_able", "_law_by", "_law_smiths", "_law_smith", "_law_one", "_law_low", "_law_high", "_law_less_here"]) (own := [("_law_one", 12), ("_law_less_here", 15)]) (fun _ => true) wearF A hs (ei_zip A hs (by decide +kernel) (ed_var (.next (.next (.next (.next (.here))))) hs (by decide +kernel)) (ed_ix (ed_ix (ed_var .here hs (by decide +kernel)) ed_int (by rfl)) (ed_var (.next (.next (.next (.next (.next (.next (.here))))))) hs (by decide +kernel)) hw)) (by unfold zipD; rw [List.length_zipWith, zD_len]; omega) rfl (by decide +kernel) (.drop (.drop (.drop (.drop (.drop (.drop (.drop (.drop (.drop (.drop (.drop (.drop (.drop (.drop (.drop (.drop .nil)))))))))))))))) (fun d hd => by
      obtain ⟨x, y, rfl⟩ := mem_zipZ hd
      exact ⟨_, (.tup (.cons (.name (.next (.next (.next (.next (.next (.next (.next (.next (.next (.next (.next (.next (.here)))))))))))))) (.cons (.name (.next (.next (.next (.next (.next (.next (.next (.next (.next (.next (.next (.next (.next (.next (.next (.here))))))))))))))))) .nil))), fun X A hs => ⟨ts_nil, fun h_2 => (ed_max A hs ed_int (ed_sub (ed_var (.next (.next (.next (.next (.next (.next (.next (.next (.next (.next (.next (.next (.here))))))))))))) hs (by decide +kernel)) (ed_var (.next (.next (.next (.next (.next (.next (.next (.next (.next (.next (.next (.next (.next (.next (.next (.here)))))))))))))))) hs (by decide +kernel))))⟩⟩)))) ea_nil))) fun v H1 e1 r => q v _ H1 e1 r (by rw [hop]; show false = !(inB dd.gaps key); rw [hin]; rfl)⟩
end WK
/-! WKEntry -/
set_option Elab.async false
set_option linter.all false
set_option maxRecDepth 100000
set_option maxHeartbeats 1000000
/-! An entry. -/
namespace WK
open PySem PySem.Spec PyProof.Rows L2
section
variable {X : Cx} {k : Nat} {M : List Addr} {a e : Expr} {env : Nv} {H : Hp} {pos p : Pos} {sc : Scope} {J : PyData → Hp → Prop} {ds : List PyData} {pn l : Addr} {n : Nat}
theorem em_pickL (A : Hs X k) (hs : X.env.scope = sc) (hv : EvV X a env H (.ref pn)) (he : EvV X e env H (.ref l)) (hl : Lst H l ds) (nl : l ≠ pn) (h1 : 1 ≤ ds.length) (h2 : ds.length ≤ 1000) (hpn : Pen H pn (n + 1)) (hM : pn ∈ M) (q : ∀ d H', Kp [pn] H H' → Pen H' pn n → d ∈ ds → J d H') (hg : glB sc "_law_pick" = true := by decide +kernel) (hk : 2 ≤ k := by decide) (hp : [a, e].all plainE = true := by rfl) :
    EvM X M (.Call (.Name "_law_pick" p) [a, e] [] pos) env H J := ⟨fun σ H1 e0 ok Q kk => by
  obtain ⟨E, h⟩ := pe_cal (n := "_law_pick") (p := p) (pos := pos) A hs hg hk hp
  obtain ⟨hp1, hp2⟩ := Bool.and_eq_true_iff.mp hp
  refine ⟨_, h, ⟨_, pa_cons pe_w (pa_cons pe_w pa_nil (star_of (Bool.and_eq_true_iff.mp hp2).1)) (star_of hp1), hv.run σ H1 e0 ok _ fun H2 e2 => he.run σ H2 (e0.trans e2) (ok.mono e2.t) _ fun H3 e3 => ?_⟩⟩
  show SpPick ([.ref pn, .ref l] ++ []) H3 Q E
  have eA := (e0.trans e2).trans e3
  refine ⟨pn, .ref l, ds, n, rfl, .inr ⟨l, rfl, nl, hl.ex eA⟩, h1, h2, hpn.ex eA, fun w d H' k1 k2 k3 k4 => kk w d H' (((e2.trans e3).kp).trans (k1.sub fun b hb => ?_)) (q d H' (eA.kp.trans k1) k2 k3) k4⟩
  obtain rfl : b = pn := by simpa using hb
  exact hM⟩
theorem em_pickT (A : Hs X k) (hs : X.env.scope = sc) (hv : EvV X a env H (.ref pn)) (he : EvD X e env H (.tuple ds)) (h1 : 1 ≤ ds.length) (h2 : ds.length ≤ 1000) (hpn : Pen H pn (n + 1)) (hM : pn ∈ M) (q : ∀ d H', Kp [pn] H H' → Pen H' pn n → d ∈ ds → J d H') (hg : glB sc "_law_pick" = true := by decide +kernel) (hk : 2 ≤ k := by decide) (hp : [a, e].all plainE = true := by rfl) :
    EvM X M (.Call (.Name "_law_pick" p) [a, e] [] pos) env H J := ⟨fun σ H1 e0 ok Q kk => by
  obtain ⟨E, h⟩ := pe_cal (n := "_law_pick") (p := p) (pos := pos) A hs hg hk hp
  obtain ⟨hp1, hp2⟩ := Bool.and_eq_true_iff.mp hp
  refine ⟨_, h, ⟨_, pa_cons pe_w (pa_cons pe_w pa_nil (star_of (Bool.and_eq_true_iff.mp hp2).1)) (star_of hp1), hv.run σ H1 e0 ok _ fun H2 e2 => he.run σ H2 (e0.trans e2) (ok.mono e2.t) _ fun v H3 e3 r => ?_⟩⟩
  show SpPick ([.ref pn, v] ++ []) H3 Q E
  have eA := (e0.trans e2).trans e3
  refine ⟨pn, v, ds, n, rfl, .inl r, h1, h2, hpn.ex eA, fun w d H' k1 k2 k3 k4 => kk w d H' (((e2.trans e3).kp).trans (k1.sub fun b hb => ?_)) (q d H' (eA.kp.trans k1) k2 k3) k4⟩
  obtain rfl : b = pn := by simpa using hb
  exact hM⟩
end
inductive StepOk (h : Ho) (hall : Int) (key : List Int) : Option Entry → Int → List Int → Prop
  | none : StepOk h hall key none hall key
  | shut (l : Int) (hl : 0 ≤ l ∧ l < h.wears.length) (ho : doorsAt h hall l ≠ []) (hc : opens h hall l key = false) : StepOk h hall key (some (.shut l)) hall key
  | seen (t : Nat) (x lo hi : Int) (ht : key[t]? = some x) (h1 : 0 ≤ lo) (h2 : lo ≤ x) (h3 : x ≤ hi) (h4 : hi ≤ 6) : StepOk h hall key (some (.seen t lo hi)) hall key
  | deed (d : Deed) (hd : d ∈ mayOf h hall key) : StepOk h hall key (some (.deed d)) (hallBehind h hall d) (doneKey h d key)
def optE : Option Entry → PyData
  | none => .none
  | some e => entryD e
def SpEntry (K : PySem.W.Frag) : Sp := fun vs H Q _ => ∃ p vh x pl h hall key n m, vs = [V.ref p, vh, V.ref x] ∧ Rp H vh (hoD h) ∧ WkAt K H x pl h hall key n ∧ HoOk h ∧ KeyOk h.teeth key ∧ n ≤ 1000 ∧ Pen H p (m + 5) ∧ p ≠ pl ∧ ∀ v e hall' key' H', Kp [p, x, pl] H H' → Pen H' p m → WkAt K H' x pl h hall' key' (n + 1) → StepOk h hall key e hall' key' → Rp H' v (optE e) → Q v H'
section
variable {X : Cx} {k : Nat} {M : List Addr} {a b c : Expr} {env : Nv} {H : Hp} {pos p : Pos} {sc : Scope} {JB : Bool → Hp → Prop} {J : PyData → Hp → Prop}
theorem tm_is (h : EvM X M a env H fun d H1 => Kp M H H1 → JB (isN d) H1) {j : Nat} {p2 : Pos} : TvM X M (.Compare a [.Is] [.Constant .none j p2] pos) env H JB := ⟨fun σ H1 e0 ok Q q =>
  ⟨_, pt_cmpR op_isN pe_w pe_non (nomark _), h.run σ H1 e0 ok _ fun v d H2 k2 j r => ⟨rfl, _, rfl, by
    rw [isN_of r]
    exact q _ H2 k2 (j (e0.kp.trans k2))⟩⟩⟩
theorem em_behind {h : Ho} {hall l : Int} {key : List Int} (A : Hs X k) (hs : X.env.scope = sc) (ha : EvA X [a, b, c] env H [hoD h, standD hall key, .tuple [.str "go", .int l]]) (ok : HoOk h) (hk : KeyOk h.teeth key) (hl : 0 ≤ l ∧ l < h.wears.length) (q : ∀ d H', Ex H H' → isN d = (!opens h hall l key) → J d H') (hg : glB sc "_law_behind" = true := by decide +kernel) (hkk : 2 ≤ k := by decide) (hp : [a, b, c].all plainE = true := by rfl) :
    EvM X M (.Call (.Name "_law_behind" p) [a, b, c] [] pos) env H J := ⟨fun σ H1 e0 okn Q kk => by
  obtain ⟨E, h1⟩ := pe_cal (n := "_law_behind") (p := p) (pos := pos) A hs hg hkk hp
  refine ⟨_, h1, ha.run σ H1 e0 okn _ fun vs H2 e2 r => ?_⟩
  show SpBehind (vs ++ []) H2 Q E
  rw [List.append_nil]
  exact ⟨h, hall, key, l, ok, hk, hl, r, fun v d H' e3 r3 hd => kk v d H' (e2.trans e3).kp (q d H' ((e0.trans e2).trans e3) hd) r3⟩⟩
end
theorem len__law_entry (K : PySem.W.Frag) : ∀ vs H Q E, SpEntry K vs H Q E → vs.length = (["_law_pen_here", "_law_house_here", "_law_walker"] : List Str).length := fun vs H Q E ⟨_, _, _, _, _, _, _, _, _, e, _⟩ => by rw [e]; rfl
/-- a def whose promise tells of the walker's class -/
class HasCalK (x : Str) (k : outParam Nat) (ps : outParam (List Str)) (sp : PySem.W.Frag → Sp) : Prop where
  cal : ∀ (P : Program) (w : World) (K : PySem.W.Frag) (mg : Str → Option Value), Tx K mg → Cal P w K mg x k ps (sp K)
theorem Cal.mkK {P : Program} {w : World} {K : PySem.W.Frag} {mg : Str → Option Value} {x : Str} {i k : Nat} {N ps : List Str} {sp : Sp} (T : Tx K mg) (hd : dG x i ∈ fn) (hg : faB (isGlo x) = true) (S : FnScope N ps (defScope (top i)))
    (hb : ∀ (kV doc pm : Value) (an : Option Addr) (cdv ct : Value) (us : List Value), us.length = ps.length → bindArgs (PySem.W.fnOf x x (defArgs (top i)) (defBody (top i)) (defScope (top i)) .none kV doc pm an cdv ct) ⟨us, []⟩ = Pure.pure (ps.zip us))
    (len : ∀ vs H Q E, sp vs H Q E → vs.length = ps.length)
    (body : ∀ X : Cx, Hs X k → X.K = K → X.env.scope = defScope (top i) → X.N = N → (∀ y, X.fn y = true) → ∀ vs H Q E, sp vs H Q E → wB X (defBody (top i)) { nx := fun _ H' => Q .non H', rt := Q } (start N vs) H) : Cal P w K mg x (k + 1) ps sp := by
  obtain ⟨fd, F⟩ := T.d.defs hd
  refine ⟨_, fd, T.glo hg, F.kp, F.bindsN hb, fun base => ?_⟩
  refine F.ok S len fun cdv A outer s H vs Q E hr hsp => ?_
  have := body ((cxOf CX0 P w K mg base N x (defScope (top i)) (He.fAd K (x, none)) cdv A outer s H E).nox) ⟨T, hr, rfl, S.nd, rfl⟩ rfl rfl rfl (fun _ => rfl) vs H Q E hsp
  exact ⟨_, PSs.nox pb_w, this⟩
def shutD (l : Int) : PyData := .tuple [.str "shut", .int l]
theorem ex_drop {H H0 H' : Hp} {l : Addr} (e0 : Ex H H0) (k : Kp [l] H0 H') (hl : H l = none) : Ex H H' := fun b o z => k.k b o (fun w => by
  obtain rfl : b = l := by simpa using w
  rw [hl] at z
  cases z) (e0 _ _ z)
theorem WkAt.kp {K : PySem.W.Frag} {M : List Addr} {H H' : Hp} {x pl : Addr} {h : Ho} {hall : Int} {key : List Int} {n : Nat} (w : WkAt K H x pl h hall key n) (k : Kp M H H') (hx : x ∉ M) (hp : pl ∉ M) : WkAt K H' x pl h hall key n := by
  obtain ⟨dx, vh, vb, vs, vk, past, kept, h1, h2, h3, h4, h5, h6, h7⟩ := w
  exact ⟨dx, vh, vb, vs, vk, past, kept, k.k _ _ hx h1, h2.mono k.t, h3.mono k.t, h4.mono k.t, h5, k.k _ _ hp h6, h7⟩
theorem WkAt.le {K : PySem.W.Frag} {H : Hp} {x pl : Addr} {h : Ho} {hall : Int} {key : List Int} {n m : Nat} (w : WkAt K H x pl h hall key n) (e : n ≤ m) : WkAt K H x pl h hall key m := by
  obtain ⟨dx, vh, vb, vs, vk, past, kept, h1, h2, h3, h4, h5, h6, h7⟩ := w
  exact ⟨dx, vh, vb, vs, vk, past, kept, h1, h2, h3, h4, Nat.le_trans h5 e, h6, Nat.le_trans h7 e⟩
def Shuts (h : Ho) (hall : Int) (key : List Int) (ls : List Int) : Prop := ∀ l ∈ ls, (0 ≤ l ∧ l < h.wears.length) ∧ doorsAt h hall l ≠ [] ∧ opens h hall l key = false
theorem lay_str {z : Str} {n : Nat} (h : (PyData.str z).canLay0 = true) : Lay n (.str z) := ⟨h, Nat.zero_le _⟩
theorem lay_deed (d : Deed) : Lay 1 (deedD d) := by
  cases d <;> exact lay_tup (n := 0) fun y hy => by
    rcases List.mem_cons.mp hy with rfl | hy
    · exact lay_str (by decide +kernel)
    · rcases List.mem_cons.mp hy with rfl | hy
      · exact lay_int
      · cases hy
theorem may_ok {h : Ho} (ok : HoOk h) {hall : Int} {key : List Int} {d : Deed} (hd : d ∈ mayOf h hall key) : DeedOk h d ∧ isN (bar h hall key d) = true := by
  have t1 := ok.teeth
  obtain ⟨h1, h2⟩ := List.mem_filter.mp hd
  refine ⟨?_, h2⟩
  unfold allDeeds at h1
  rcases List.mem_append.mp h1 with h1 | h1
  · rcases List.mem_append.mp h1 with h1 | h1
    · obtain ⟨i, hi, rfl⟩ := List.mem_map.mp h1
      have := List.mem_range.mp hi
      show 0 ≤ (i : Int) ∧ (i : Int) ≤ h.teeth - 1
      omega
    · obtain ⟨i, hi, rfl⟩ := List.mem_map.mp h1
      have := List.mem_range.mp hi
      show 0 ≤ (i : Int) ∧ (i : Int) ≤ (h.wears.length : Int) - 1
      omega
  · obtain ⟨i, hi, rfl⟩ := List.mem_map.mp h1
    have := List.mem_range.mp hi
    show 0 ≤ (i : Int) ∧ (i : Int) ≤ h.teeth - 1
    omega
theorem sc__law_entry : FnScope ((["_law_pen_here", "_law_house_here", "_law_walker"] : List Str) ++ (["_law_hall", "_law_key_here", "_law_sort", "_law_shut", "_law_letter", "_law_some", "_law_deed", "_law_tooth", "_law_low", "_law_high"] : List Str)) ["_law_pen_here", "_law_house_here", "_law_walker"] (defScope (top 114)) := fnScope_by (by decide +kernel)
instance : HasCalK "_law_entry" 7 ["_law_pen_here", "_law_house_here", "_law_walker"] SpEntry := ⟨fun P w K mg T => by
  refine Cal.mkK T (i := 114) (N := (["_law_pen_here", "_law_house_here", "_law_walker"] : List Str) ++ (["_law_hall", "_law_key_here", "_law_sort", "_law_shut", "_law_letter", "_law_some", "_law_deed", "_law_tooth", "_law_low", "_law_high"] : List Str)) (List.mem_of_getElem? (i := 63) rfl) (by decide +kernel) sc__law_entry (fun _ _ _ _ _ _ us hl => match us, hl with | [_, _, _], _ => rfl) (len__law_entry K) fun X A hK hs hN hf vs H Q E h => ?_
  obtain ⟨p, vh, x, pl, h, hall, key, n, m, rfl, rh, w, ok, hk, hn, pen, npp, q⟩ := h
  refine go_beginS (ss := [.v (.ref p), .d (hoD h), .v (.ref x)]) hs hN (.cons rfl (.cons rh (.cons rfl .nil))) rfl (by decide +kernel) ?_
  subst hK
  simp only [nvS, unM]
  have M1 : p ∈ [p] := List.mem_singleton.mpr rfl
  have t1 := ok.teeth
  have t2 := ok.wearsN
  refine go_unp A (ed_stand A (ev_var (.next (.next (.here))) hs (by decide +kernel)) w) (.tup (.cons (.name (.next (.next (.next (.here))))) (.cons (.name (.next (.next (.next (.next (.here)))))) .nil))) (fun q hq => locN hf hs (by simp at hq; rcases hq with rfl | rfl <;> decide +kernel)) ?_
  refine gm_parDL (M := [p]) (J := fun d H' => IntB 4 d ∧ Pen H' p (m + 4)) A hs (em_draw A hs (ev_var .here hs (by decide +kernel)) ed_int (by decide) (pen : Pen H p ((m + 4) + 1)) M1 fun i H1 k1 p1 g1 g2 => ⟨⟨i, rfl, g1, g2⟩, p1⟩) (fun H1 k1 => el_lst ea_nil) (fun _ => (.next (.next (.next (.next (.next (.here))))))) (fun _ _ => (.next (.next (.next (.next (.next (.next (.here)))))))) (by decide) (by decide +kernel) (by decide +kernel) (by decide +kernel) fun d ld H1 H2 k1 hj e2 hld L2 => ?_
  obtain ⟨⟨srt, rfl, s1, s2⟩, pen1⟩ := hj
  have pen2 := pen1.ex e2
  have npl : p ≠ ld := fun z => by rw [z] at pen1; exact pen1.not hld
  have hM : Has1 [ld] H2 := fun b hb => by
    obtain rfl : b = ld := by simpa using hb
    obtain ⟨vs, h1, _⟩ := L2
    rw [h1]
    exact fun z => by cases z
  have tl : (rangeD (((h.wears.map kD).length : Nat) : Int)).length = h.wears.length := by
    rw [rangeD_len, List.length_map]
    omega
  refine gm_for [ld] (fun i nv H' => ∃ ls : List Int, Shuts h hall key ls ∧ ls.length ≤ i ∧ Lst H' ld (ls.map shutD) ∧ ∃ s1, nv = ([("_law_pen_here", .v (.ref p)), ("_law_house_here", .d (hoD h)), ("_law_walker", .v (.ref x)), ("_law_hall", .d (.int hall)), ("_law_key_here", .d (kD key)), ("_law_sort", .d (.int srt)), ("_law_shut", .v (.ref ld)), ("_law_letter", s1), ("_law_some", .un), ("_law_deed", .un), ("_law_tooth", .un), ("_law_low", .un), ("_law_high", .un)] : Nv)) A (ei_range A hs (by decide +kernel) (ed_len A hs (ed_ix (ed_var (.next (.here)) hs (by decide +kernel)) ed_int (by first | rfl | assumption | decide +kernel))) (by rw [List.length_map]; omega)) hM (fun b hb => by cases hb) (fun H3 e3 => ⟨[], (fun l hl => by cases hl), Nat.le_refl _, L2.ex e3, _, rfl⟩) ?_ ?_ ?_
  · rintro i nv H' H'' ⟨ls, h1, h2, h3, h4⟩ e
    exact ⟨ls, h1, h2, h3.ex e, h4⟩
  · rintro i d nv H' hd ⟨_, _, _, _, s1, rfl⟩ k1
    have hi := lt_of_get hd
    rw [tl] at hi
    obtain rfl := (rangeD_get hd).2
    refine ⟨_, _, .name (.next (.next (.next (.next (.next (.next (.next (.here)))))))), fun q hq => locN hf hs (by simp at hq; rcases hq with rfl; decide +kernel), ?_⟩
    rintro H4 e4 ⟨ls, hls, hln, L4, _⟩
    have hil : 0 ≤ (i : Int) ∧ (i : Int) < h.wears.length := ⟨by omega, by omega⟩
    refine gm_when (M := []) (JB := fun b H5 => Ex H4 H5 ∧ (b = true → doorsAt h hall i ≠ [] ∧ opens h hall i key = false)) (tm_and2 (tm_t (et_isnt (ed_call A hs (ea_cons (ed_var (.next (.here)) hs (by decide +kernel)) (ea_cons (ed_var (.next (.next (.next (.here)))) hs (by decide +kernel)) (ea_cons (ed_var (.next (.next (.next (.next (.next (.next (.next (.here)))))))) hs (by decide +kernel)) ea_nil))) (R_ldoor.mk h hall i ok.doorsN)) ed_non) fun H5 e5 _ => ?_)) (fun H5 _ hj => ?_) (fun H5 _ hj => ?_)
    · cases hdA : doorsAt h hall i with
      | nil =>
        show if false = true then _ else _
        rw [if_neg (by decide)]
        exact ⟨e5, fun z => by cases z⟩
      | cons dd r =>
        show if true = true then _ else _
        rw [if_pos rfl]
        refine tm_is (em_behind A hs (ea_cons (ed_var (.next (.here)) hs (by decide +kernel)) (ea_cons (ed_tup (ea_cons (ed_var (.next (.next (.next (.here)))) hs (by decide +kernel)) (ea_cons (ed_var (.next (.next (.next (.next (.here))))) hs (by decide +kernel)) ea_nil))) (ea_cons (ed_tup (ea_cons ed_str (ea_cons (ed_var (.next (.next (.next (.next (.next (.next (.next (.here)))))))) hs (by decide +kernel)) ea_nil))) ea_nil))) ok hk hil fun d H6 e6 hd _ => ⟨e5.trans e6, fun z => ⟨(fun z2 => by cases z2), ?_⟩⟩)
        rw [hd] at z
        simpa using z
    · obtain ⟨e5, hj⟩ := hj
      obtain ⟨h1, h2⟩ := hj rfl
      have L5 := L4.ex e5
      refine gm_app (M := []) (J := fun d H6 => d = shutD i ∧ Ex H5 H6) (ev_var (.next (.next (.next (.next (.next (.next (.here))))))) hs (by decide +kernel)) L5 (fun z => by cases z) (fun H6 e6 => em_d (ed_tup (ea_cons ed_str (ea_cons (ed_var (.next (.next (.next (.next (.next (.next (.next (.here)))))))) hs (by decide +kernel)) ea_nil))) fun H7 e7 => ⟨rfl, e6.trans e7⟩) (by rw [List.length_map]; omega) fun d H6 H7 _ hj k7 L7 => ?_
      obtain ⟨rfl, e6⟩ := hj
      refine go_nil fun σ H8 e8 ok8 => ⟨_, pss_nil, ((e5.trans e6).kp.trans k7).trans e8.kp, _, ok8, ls ++ [(i : Int)], fun l hl => ?_, by simp; omega, by rw [List.map_append]; exact L7.ex e8, _, rfl⟩
      rcases List.mem_append.mp hl with z | z
      · exact hls l z
      · obtain rfl : l = (i : Int) := by simpa using z
        exact ⟨hil, h1, h2⟩
    · refine go_nil fun σ H6 e6 ok6 => ⟨((hj.1.trans e6).kp), _, ok6, ls, hls, by omega, (L4.ex hj.1).ex e6, _, rfl⟩
  · rintro nv H3 k3 ⟨ls, hls, hln, L3, s1, rfl⟩
    rw [tl] at hln
    have pen3 := pen2.kp k3 (not1 npl)
    have nxp : x ≠ p := fun z => by
      obtain ⟨dx, vh, vb, vs, vk, past, kept, h1, _⟩ := w
      obtain ⟨a, b, c, h2, _⟩ := pen
      rw [z, h2] at h1
      cases h1
    have kA : Kp [p] H H3 := k1.trans (ex_drop e2 k3 hld).kp
    have w3 := w.kp kA (not1 nxp) (not1 npp.symm)
    have sub1 : ∀ b ∈ [p], b ∈ [p, x, pl] := fun b hb => List.mem_cons.mpr (.inl (by simpa using hb))
    have sx : SeqAt.shaped (.list (ls.map shutD)) = true := ((lay_list (n := 1) fun d hd => by
      obtain ⟨l, _, rfl⟩ := List.mem_map.mp hd
      exact lay_tup (n := 0) (ds := [.str "shut", .int l]) fun y hy => by
        simp at hy
        rcases hy with rfl | rfl
        · exact ⟨by decide +kernel, Nat.zero_le _⟩
        · exact lay_int).le (by decide)).shaped
    refine go_when (et_bool (ew_and (et_eq A (ed_var (.next (.next (.next (.next (.next (.here)))))) hs (by decide +kernel)) ed_int (by first | rfl | assumption | decide +kernel) (by first | rfl | assumption | decide +kernel)) (fun h_1 => (ew_and1 ((et_neL A (EvV.r (ev_var (.next (.next (.next (.next (.next (.next (.here))))))) hs (by decide +kernel)) L3) (EvL.r (el_lst ea_nil)) sx (by decide))))))) (fun ht => ?_) (fun _ => ?_)
    · have hne : (ls.map shutD).isEmpty = false := by
        have h2 := (Bool.and_eq_true_iff.mp ht).2
        rw [eqv_nilL] at h2
        simpa using h2
      have hlen : 1 ≤ (ls.map shutD).length := by
        cases hls0 : ls with
        | nil => rw [hls0] at hne; cases hne
        | cons _ _ => simp
      refine gm_ret (M := [p]) (em_pickL (J := fun d H' => (∃ l ∈ ls, d = shutD l) ∧ Pen H' p m) A hs (ev_var .here hs (by decide +kernel)) (ev_var (.next (.next (.next (.next (.next (.next (.here))))))) hs (by decide +kernel)) L3 npl.symm hlen (by rw [List.length_map]; omega) (pen3.le (by omega) : Pen H3 p (m + 1)) M1 fun d H' k4 p4 hd => ⟨by
        obtain ⟨l, hl, rfl⟩ := List.mem_map.mp hd
        exact ⟨l, hl, rfl⟩, p4⟩) fun v d H4 k4 hj r => ?_
      obtain ⟨⟨l, hl, rfl⟩, p4⟩ := hj
      obtain ⟨a1, a2, a3⟩ := hls l hl
      exact q v (some (.shut l)) hall key H4 ((kA.trans k4).sub sub1) p4 ((w3.kp k4 (not1 nxp) (not1 npp.symm)).le (by omega)) (.shut l a1 a2 a3) r
    · have hkl := hk.1
      refine go_when (et_eq A (ed_var (.next (.next (.next (.next (.next (.here)))))) hs (by decide +kernel)) ed_int (by first | rfl | assumption | decide +kernel) (by first | rfl | assumption | decide +kernel)) (fun _ => ?_) (fun _ => ?_)
      · refine gm_set (M := [p]) A (em_draw (J := fun d H' => IntB key.length d ∧ Pen H' p (m + 3)) A hs (ev_var .here hs (by decide +kernel)) (ed_len A hs (ed_var (.next (.next (.next (.next (.here))))) hs (by decide +kernel))) (by rw [zD_len]; omega) (pen3 : Pen H3 p ((m + 3) + 1)) M1 fun i H' k4 p4 g1 g2 => ⟨⟨i, rfl, g1, by rw [zD_len] at g2; exact g2⟩, p4⟩) (fun _ => (.next (.next (.next (.next (.next (.next (.next (.next (.next (.next (.here)))))))))))) (locN hf hs (by decide +kernel)) fun d H4 k4 hj => ?_
        obtain ⟨⟨t, rfl, g1, g2⟩, p4⟩ := hj
        obtain ⟨t, rfl⟩ := Int.eq_ofNat_of_zero_le g1
        have htl : t < key.length := by omega
        obtain ⟨xx, hxx⟩ : ∃ xx, key[t]? = some xx := ⟨key[t], List.getElem?_eq_getElem htl⟩
        have hxb := hk.2 xx (List.mem_of_getElem? hxx)
        have hx : atI (zD key) (t : Int) = some (.int xx) := by
          unfold atI
          rw [ixN_ofNat (by rw [zD_len]; exact htl)]
          show (zD key)[t]? = _
          unfold zD
          rw [List.getElem?_map, hxx]
          rfl
        refine gm_par2 (M := [p]) (J2 := fun x y H' => ∃ lo hi : Int, x = .int lo ∧ y = .int hi ∧ (0 ≤ lo ∧ lo ≤ xx) ∧ (xx ≤ hi ∧ hi ≤ 6) ∧ Pen H' p (m + 1)) A hs (am_cons (em_sub (em_d (ed_ix (ed_var (.next (.next (.next (.next (.here))))) hs (by decide +kernel)) (ed_var (.next (.next (.next (.next (.next (.next (.next (.next (.next (.next (.here))))))))))) hs (by decide +kernel)) hx) fun Ha ea _ => em_draw A hs (ev_var .here hs (by decide +kernel)) (ed_add (ed_ix (ed_var (.next (.next (.next (.next (.here))))) hs (by decide +kernel)) (ed_var (.next (.next (.next (.next (.next (.next (.next (.next (.next (.next (.here))))))))))) hs (by decide +kernel)) hx) ed_int) (by omega) (p4.ex ea : Pen Ha p ((m + 2) + 1)) M1 fun i1 Hb kb pb f1 f2 _ => ⟨xx, i1, rfl, rfl, fun _ => am_cons (em_add (em_d (ed_ix (ed_var (.next (.next (.next (.next (.here))))) hs (by decide +kernel)) (ed_var (.next (.next (.next (.next (.next (.next (.next (.next (.next (.next (.here))))))))))) hs (by decide +kernel)) hx) fun Hc ec _ => em_draw A hs (ev_var .here hs (by decide +kernel)) (ed_sub ed_int (ed_ix (ed_var (.next (.next (.next (.next (.here))))) hs (by decide +kernel)) (ed_var (.next (.next (.next (.next (.next (.next (.next (.next (.next (.next (.here))))))))))) hs (by decide +kernel)) hx)) (by omega) (pb.ex ec : Pen Hc p ((m + 1) + 1)) M1 fun i2 Hd kd pd l1 l2 _ => ⟨xx, i2, rfl, rfl, fun _ => am_nil fun He ee _ _ => ⟨_, _, rfl, _, _, rfl, rfl, by omega, by omega, pd.ex ee⟩⟩))⟩))) (fun _ => (.next (.next (.next (.next (.next (.next (.next (.next (.next (.next (.next (.here))))))))))))) (fun _ _ => (.next (.next (.next (.next (.next (.next (.next (.next (.next (.next (.next (.next (.here)))))))))))))) (by decide) (by decide +kernel) (by decide +kernel) (by decide +kernel) fun x' y' H5 k5 hj => ?_
        obtain ⟨lo, hi, rfl, rfl, ⟨lo1, lo2⟩, ⟨hi1, hi2⟩, p5⟩ := hj
        have kB : Kp [p] H3 H5 := k4.trans k5
        refine gm_ret (M := [p]) (em_tup (J := fun d H' => (∃ l : Int, d = entryD (.seen t l hi) ∧ 0 ≤ l ∧ l ≤ xx) ∧ Pen H' p m) (am_cons (em_d ed_str fun Ha ea _ => am_cons (em_d (ed_var (.next (.next (.next (.next (.next (.next (.next (.next (.next (.next (.here))))))))))) hs (by decide +kernel)) fun Hb eb _ => am_cons (em_ixL (p5.ex (ea.trans eb)).has (am_a (ea_cons (ed_var (.next (.next (.next (.next (.next (.next (.next (.next (.next (.next (.next (.here)))))))))))) hs (by decide +kernel)) (ea_cons (ed_ix (ed_var (.next (.next (.next (.next (.here))))) hs (by decide +kernel)) (ed_var (.next (.next (.next (.next (.next (.next (.next (.next (.next (.next (.here))))))))))) hs (by decide +kernel)) hx) ea_nil)) fun Hc ec _ => ⟨by show 2 ≤ 1000; decide, fun Hd ed0 => em_draw A hs (ev_var .here hs (by decide +kernel)) ed_int (by decide) ((p5.ex (ea.trans eb)).ex (ec.trans ed0)) M1 fun i3 He ke pe_ f1 f2 _ => ?_⟩)))))) fun v d H6 k6 hj r => ?_
        · rcases (by omega : i3 = 0 ∨ i3 = 1) with rfl | rfl
          · exact ⟨0, .int lo, rfl, rfl, fun _ => am_cons (em_d (ed_var (.next (.next (.next (.next (.next (.next (.next (.next (.next (.next (.next (.next (.here))))))))))))) hs (by decide +kernel)) fun Hf ef _ => am_nil fun Hg eg _ _ _ _ _ => ⟨by show 4 ≤ 1000; decide, fun Hh eh => ⟨⟨lo, rfl, lo1, lo2⟩, ((pe_.ex ef).ex eg).ex eh⟩⟩)⟩
          · exact ⟨1, .int xx, rfl, rfl, fun _ => am_cons (em_d (ed_var (.next (.next (.next (.next (.next (.next (.next (.next (.next (.next (.next (.next (.here))))))))))))) hs (by decide +kernel)) fun Hf ef _ => am_nil fun Hg eg _ _ _ _ _ => ⟨by show 4 ≤ 1000; decide, fun Hh eh => ⟨⟨xx, rfl, hxb.1, Int.le_refl _⟩, ((pe_.ex ef).ex eg).ex eh⟩⟩)⟩
        · obtain ⟨⟨l, rfl, l1, l2⟩, p6⟩ := hj
          have kC := kB.trans k6
          exact q v (some (.seen t l hi)) hall key H6 ((kA.trans kC).sub sub1) p6 ((w3.kp kC (not1 nxp) (not1 npp.symm)).le (by omega)) (.seen t xx l hi hxx l1 l2 hi1 hi2) r
      · have sxm : SeqAt.shaped (.tuple ((mayOf h hall key).map deedD)) = true := ((lay_tup (n := 1) fun d hd => by
          obtain ⟨dd, _, rfl⟩ := List.mem_map.mp hd
          exact lay_deed dd).le (by decide)).shaped
        have hlm : ((mayOf h hall key).map deedD).length ≤ 1000 := by
          have h1 := allDeeds_len ok
          have h2 : (mayOf h hall key).length ≤ (allDeeds h).length := List.length_filter_le _ _
          rw [List.length_map] at h1 ⊢
          omega
        refine go_set A (ed_may A (ev_var (.next (.next (.here))) hs (by decide +kernel)) w3 ok hk) (.next (.next (.next (.next (.next (.next (.next (.next (.here))))))))) (locN hf hs (by decide +kernel)) ?_
        refine go_when (et_eq A (ed_var (.next (.next (.next (.next (.next (.next (.next (.next (.here))))))))) hs (by decide +kernel)) (ed_tup ea_nil) (by first | rfl | assumption | decide +kernel) (by first | rfl | assumption | decide +kernel)) (fun _ => ?_) (fun ht => ?_)
        · exact go_ret ed_non fun v H4 e4 r => q v none hall key H4 ((kA.trans e4.kp).sub sub1) ((pen3.ex e4).le (by omega)) ((w3.ex e4).le (by omega)) .none r
        · rw [eqv_nilT] at ht
          have hlen : 1 ≤ ((mayOf h hall key).map deedD).length := by
            cases hm0 : (mayOf h hall key).map deedD with
            | nil => rw [hm0] at ht; cases ht
            | cons _ _ => simp
          refine gm_set (M := [p]) A (em_pickT (J := fun d H' => (∃ dd ∈ mayOf h hall key, d = deedD dd) ∧ Pen H' p m) A hs (ev_var .here hs (by decide +kernel)) (ed_var (.next (.next (.next (.next (.next (.next (.next (.next (.here))))))))) hs (by decide +kernel)) hlen hlm (pen3.le (by omega) : Pen H3 p (m + 1)) M1 fun d H' k4 p4 hd => ⟨by
            obtain ⟨dd, hdd, rfl⟩ := List.mem_map.mp hd
            exact ⟨dd, hdd, rfl⟩, p4⟩) (fun _ => (.next (.next (.next (.next (.next (.next (.next (.next (.next (.here))))))))))) (locN hf hs (by decide +kernel)) fun d H4 k4 hj => ?_
          obtain ⟨⟨dd, hdd, rfl⟩, p4⟩ := hj
          have w4 := w3.kp k4 (not1 nxp) (not1 npp.symm)
          obtain ⟨hd1, hd2⟩ := may_ok ok hdd
          have npx : p ∉ [x, pl] := fun z => by
            rcases List.mem_cons.mp z with z | z
            · exact nxp z.symm
            · exact npp (by simpa using z)
          refine gm_expr (em_turn (m := "play") (M := [x, pl]) (J := fun _ H' => Kp [x, pl] H4 H' ∧ WkAt X.K H' x pl h (hallBehind h hall dd) (doneKey h dd key) (n + 1)) A (ev_var (.next (.next (.here))) hs (by decide +kernel)) (ed_tup (ea_cons (ed_var (.next (.next (.next (.next (.next (.next (.next (.next (.next (.here)))))))))) hs (by decide +kernel)) ea_nil)) w4 ok hk hd1 hd2 hn List.mem_cons_self (List.mem_cons_of_mem _ List.mem_cons_self) fun H' k1 w1 => ⟨k1, w1⟩) fun _ H5 _ hj => ?_
          obtain ⟨k5, w5⟩ := hj
          have sub2 : ∀ b ∈ [x, pl], b ∈ [p, x, pl] := fun b hb => List.mem_cons_of_mem _ hb
          exact go_ret (ed_var (.next (.next (.next (.next (.next (.next (.next (.next (.next (.here)))))))))) hs (by decide +kernel)) fun v H6 e6 r => q v (some (.deed dd)) _ _ H6 ((((kA.trans k4).sub sub1).trans (k5.sub sub2)).trans e6.kp) ((p4.kp k5 npx).ex e6) (w5.ex e6) (.deed dd hdd) r⟩
end WK
/-! WKMath1 -/
set_option Elab.async false
set_option linter.all false
set_option maxRecDepth 100000
set_option maxHeartbeats 1000000
/-! What greatest boxes are: plain Lean, no program. -/
namespace WK
open PySem PySem.Spec PyProof.Rows L2
theorem at0_moved {k : List Int} {t : Nat} (b : Int) (h : t < k.length) (s : Nat) : at0 (moved k t b) s = if s = t then at0 k t + b else at0 k s := by
  unfold at0 moved
  rw [List.getElem?_set]
  by_cases e : t = s
  · subst e
    simp [h]
  · rw [if_neg e, if_neg (Ne.symm e)]
theorem at0_ge {k : List Int} {t : Nat} (h : k.length ≤ t) : at0 k t = 0 := by
  unfold at0
  rw [List.getElem?_eq_none_iff.mpr h]
  rfl
def LeK (a b : List Int) : Prop := ∀ t, at0 a t ≤ at0 b t
theorem LeK.refl (a : List Int) : LeK a a := fun _ => Int.le_refl _
theorem leK_cons {a b : Int} {l m : List Int} : LeK (a :: l) (b :: m) ↔ a ≤ b ∧ LeK l m := by
  constructor
  · intro h
    exact ⟨h 0, fun t => h (t + 1)⟩
  · rintro ⟨h1, h2⟩ t
    cases t with
    | zero => exact h1
    | succ t => exact h2 t
theorem geB_iff : ∀ {high low : List Int}, high.length = low.length → (geB high low = true ↔ LeK low high)
  | [], [], _ => ⟨fun _ => LeK.refl _, fun _ => rfl⟩
  | a :: high, b :: low, h => by
    rw [leK_cons, ← geB_iff (high := high) (low := low) (by simpa using h)]
    show ((decide (b ≤ a) && geB high low) = true) ↔ _
    simp
theorem inB_iff : ∀ {low high key : List Int}, low.length = key.length → high.length = key.length → (inB (List.zip low high) key = true ↔ LeK low key ∧ LeK key high)
  | [], [], [], _, _ => ⟨fun _ => ⟨LeK.refl _, LeK.refl _⟩, fun _ => rfl⟩
  | [], _, _ :: _, h1, _ => by simp at h1
  | _ :: _, _, [], h1, _ => by simp at h1
  | _, [], _ :: _, _, h2 => by simp at h2
  | _, _ :: _, [], _, h2 => by simp at h2
  | a :: low, b :: high, x :: key, h1, h2 => by
    have ih := inB_iff (low := low) (high := high) (key := key) (by simpa using h1) (by simpa using h2)
    rw [leK_cons, leK_cons]
    show (((decide (a ≤ x) && decide (x ≤ b)) && inB (List.zip low high) key) = true) ↔ _
    rw [Bool.and_eq_true, Bool.and_eq_true, decide_eq_true_eq, decide_eq_true_eq, ih]
    constructor
    · rintro ⟨⟨a1, a2⟩, a3, a4⟩
      exact ⟨⟨a1, a3⟩, a2, a4⟩
    · rintro ⟨⟨a1, a3⟩, a2, a4⟩
      exact ⟨⟨a1, a2⟩, a3, a4⟩
theorem eq_of_at0 {a b : List Int} (hl : a.length = b.length) (h : ∀ t, at0 a t = at0 b t) : a = b := by
  refine List.ext_getElem hl fun t h1 h2 => ?_
  have := h t
  unfold at0 at this
  rw [List.getElem?_eq_getElem h1, List.getElem?_eq_getElem h2] at this
  exact this
/-- acc holds whole boxes from low on -/
structure Fine (low : List Int) (n : Nat) (acc : List (List Int)) : Prop where
  len : ∀ h ∈ acc, h.length = n
  le : ∀ h ∈ acc, LeK low h
  all : ∀ h ∈ acc, ∀ k : List Int, k.length = n → LeK low k → LeK k h → k ∈ acc
theorem Fine.nil (low : List Int) (n : Nat) : Fine low n [] := ⟨fun _ h => (nomatch h), fun _ h => (nomatch h), fun _ h => (nomatch h)⟩
theorem Fine.step {low : List Int} {n : Nat} {acc : List (List Int)} (F : Fine low n acc) (hl : low.length = n) {high : List Int} (hh : high.length = n) : Fine low n (ffStep low acc high) := by
  unfold ffStep
  split
  · rename_i h1
    split
    · rename_i h2
      have hle := (geB_iff (by rw [hh, hl])).mp h1
      refine ⟨fun h hm => ?_, fun h hm => ?_, fun h hm k hk k1 k2 => ?_⟩
      · rcases List.mem_append.mp hm with z | z
        · exact F.len h z
        · rw [List.mem_singleton.mp z]
          exact hh
      · rcases List.mem_append.mp hm with z | z
        · exact F.le h z
        · rw [List.mem_singleton.mp z]
          exact hle
      · rcases List.mem_append.mp hm with z | z
        · exact List.mem_append_left _ (F.all h z k hk k1 k2)
        · have z := List.mem_singleton.mp z
          subst z
          by_cases e : ∀ t, at0 k t = at0 h t
          · rw [eq_of_at0 (hk.trans hh.symm) e]
            simp
          · obtain ⟨t, ht⟩ := Classical.not_forall.mp e
            have hlt : at0 k t < at0 h t := by
              have := k2 t
              omega
            have htn : t < n := by
              by_cases q : t < n
              · exact q
              · rw [at0_ge (by omega), at0_ge (by omega)] at hlt
                omega
            have hst : t ∈ stepsOf h low := by
              refine List.mem_filter.mpr ⟨List.mem_range.mpr (by omega), decide_eq_true ?_⟩
              have := k1 t
              omega
            have hmv := of_decide_eq_true (List.all_eq_true.mp h2 t hst)
            refine List.mem_append_left _ (F.all _ hmv k hk k1 fun s => ?_)
            rw [at0_moved _ (by omega)]
            split
            · rename_i q
              subst q
              omega
            · exact k2 s
    · exact F
  · exact F
theorem Fine.fold {low : List Int} {n : Nat} (hl : low.length = n) : ∀ (l acc : List (List Int)), Fine low n acc → (∀ h ∈ l, h.length = n) → Fine low n (l.foldl (ffStep low) acc)
  | [], _, F, _ => F
  | x :: l, acc, F, h => Fine.fold hl l _ (F.step hl (h x List.mem_cons_self)) fun y hy => h y (List.mem_cons_of_mem _ hy)
theorem ff_mono (low : List Int) : ∀ (l acc : List (List Int)), ∀ k ∈ acc, k ∈ l.foldl (ffStep low) acc
  | [], _, _, h => h
  | x :: l, acc, k, h => by
    refine ff_mono low l _ k ?_
    unfold ffStep
    split
    · split
      · exact List.mem_append_left _ h
      · exact h
    · exact h
theorem steps_self (low : List Int) : stepsOf low low = [] := by
  unfold stepsOf
  rw [List.filter_eq_nil_iff]
  intro t _
  simp
theorem ff_self (low : List Int) : ∀ (l acc : List (List Int)), low ∈ l → low ∈ l.foldl (ffStep low) acc
  | x :: l, acc, h => by
    by_cases e : x = low
    · subst e
      refine ff_mono x l _ x ?_
      unfold ffStep
      rw [if_pos ((geB_iff rfl).mpr (LeK.refl x)), if_pos (by rw [steps_self]; rfl)]
      simp
    · refine ff_self low l _ ?_
      rcases List.mem_cons.mp h with z | z
      · exact absurd z.symm e
      · exact z
section
variable {ks : List (List Int)} {n : Nat}
theorem fill_fine (hks : ∀ k ∈ ks, k.length = n) {low : List Int} (hl : low.length = n) : Fine low n (filledFrom ks low) :=
  Fine.fold hl _ _ (Fine.nil low n) fun h hh => hks h ((sortK_perm ks).mem_iff.mp hh)
theorem fill_self {low : List Int} (h : low ∈ ks) : low ∈ filledFrom ks low := ff_self low _ _ ((sortK_perm ks).mem_iff.mpr h)
theorem gb_mem {b : List (Int × Int)} (hb : b ∈ gbList ks) : ∃ low high, low ∈ ks ∧ high ∈ filledFrom ks low ∧ b = List.zip low high := by
  obtain ⟨low, h1, h2⟩ := List.mem_flatMap.mp hb
  obtain ⟨high, h3, rfl⟩ := List.mem_map.mp h2
  exact ⟨low, high, h1, (List.mem_filter.mp h3).1, rfl⟩
theorem gb_sound (hks : ∀ k ∈ ks, k.length = n) {b : List (Int × Int)} (hb : b ∈ gbList ks) {key : List Int} (hk : key.length = n) (hin : inB b key = true) : key ∈ ks := by
  obtain ⟨low, high, h1, h2, rfl⟩ := gb_mem hb
  have F := fill_fine hks (hks low h1)
  obtain ⟨a1, a2⟩ := (inB_iff ((hks low h1).trans hk.symm) ((F.len high h2).trans hk.symm)).mp hin
  exact ff_all ks low key (F.all high h2 key hk a1 a2)
theorem moved_sum : ∀ (k : List Int) (t : Nat) (b : Int), t < k.length → (moved k t b).sum = k.sum + b
  | x :: k, 0, b, _ => by
    show ((x + b) :: k).sum = _
    rw [List.sum_cons, List.sum_cons]
    omega
  | x :: k, t + 1, b, h => by
    have ih := moved_sum k t b (by simpa using h)
    show (x :: moved k t b).sum = _
    rw [List.sum_cons, List.sum_cons, ih]
    omega
theorem sum_in : ∀ {k : List Int}, (∀ x ∈ k, 0 ≤ x ∧ x ≤ 6) → 0 ≤ k.sum ∧ k.sum ≤ 6 * (k.length : Int)
  | [], _ => by simp
  | x :: k, h => by
    have ih := sum_in (k := k) fun y hy => h y (List.mem_cons_of_mem _ hy)
    have hx := h x List.mem_cons_self
    rw [List.sum_cons, List.length_cons]
    omega
theorem gb_up (hks : ∀ k ∈ ks, k.length = n) {l u key : List Int} (hl : l ∈ ks) (hu : u ∈ filledFrom ks l) (k1 : LeK l key) (k2 : LeK key u) (h : isGreatest ks l u = false) :
    ∃ l' u', l' ∈ ks ∧ u' ∈ filledFrom ks l' ∧ LeK l' key ∧ LeK key u' ∧ u'.sum - l'.sum = u.sum - l.sum + 1 := by
  unfold isGreatest at h
  obtain ⟨t, ht, hb⟩ := List.all_eq_false.mp h
  have htl := List.mem_range.mp ht
  have hun := (fill_fine hks (hks l hl)).len u hu
  have hln := hks l hl
  have hb2 : gr1 ks l u t = true ∨ gr2 ks l u t = true := by
    cases e1 : gr1 ks l u t with
    | true => exact .inl rfl
    | false =>
      cases e2 : gr2 ks l u t with
      | true => exact .inr rfl
      | false =>
        rw [e1, e2] at hb
        exact absurd rfl hb
  rcases hb2 with z | z
  · have z1 := of_decide_eq_true z
    refine ⟨l, moved u t 1, hl, z1, k1, fun s => ?_, ?_⟩
    · rw [at0_moved _ (by omega)]
      have := k2 s
      split
      · rename_i q
        subst q
        omega
      · exact this
    · rw [moved_sum _ _ _ (by omega)]
      omega
  · obtain ⟨z1, z2⟩ := Bool.and_eq_true_iff.mp z
    have z1 := of_decide_eq_true z1
    have z2 := of_decide_eq_true z2
    refine ⟨moved l t (-1), u, z1, z2, fun s => ?_, k2, ?_⟩
    · rw [at0_moved _ (by omega)]
      have := k1 s
      split
      · rename_i q
        subst q
        omega
      · exact this
    · rw [moved_sum _ _ _ (by omega)]
      omega
theorem gb_climb (hks : ∀ k ∈ ks, k.length = n) (h6 : ∀ k ∈ ks, ∀ x ∈ k, 0 ≤ x ∧ x ≤ 6) {key : List Int} (hk : key.length = n) : ∀ (fuel : Nat) (l u : List Int), l ∈ ks → u ∈ filledFrom ks l → LeK l key → LeK key u → 6 * (n : Int) - (u.sum - l.sum) ≤ fuel → ∃ b ∈ gbList ks, inB b key = true := by
  have done : ∀ l u : List Int, l ∈ ks → u ∈ filledFrom ks l → LeK l key → LeK key u → isGreatest ks l u = true → ∃ b ∈ gbList ks, inB b key = true := fun l u hl hu k1 k2 hg =>
    ⟨List.zip l u, List.mem_flatMap.mpr ⟨l, hl, List.mem_map.mpr ⟨u, List.mem_filter.mpr ⟨hu, hg⟩, rfl⟩⟩, (inB_iff ((hks l hl).trans hk.symm) (((fill_fine hks (hks l hl)).len u hu).trans hk.symm)).mpr ⟨k1, k2⟩⟩
  intro fuel
  induction fuel with
  | zero =>
    intro l u hl hu k1 k2 hf
    cases hg : isGreatest ks l u with
    | true => exact done l u hl hu k1 k2 hg
    | false =>
      obtain ⟨l', u', a1, a2, _, _, a5⟩ := gb_up hks hl hu k1 k2 hg
      have b1 := sum_in (h6 l' a1)
      have b2 := sum_in (h6 u' (ff_all ks l' u' a2))
      rw [hks u' (ff_all ks l' u' a2)] at b2
      omega
  | succ f ih =>
    intro l u hl hu k1 k2 hf
    cases hg : isGreatest ks l u with
    | true => exact done l u hl hu k1 k2 hg
    | false =>
      obtain ⟨l', u', a1, a2, a3, a4, a5⟩ := gb_up hks hl hu k1 k2 hg
      exact ih l' u' a1 a2 a3 a4 (by omega)
theorem gb_full (hks : ∀ k ∈ ks, k.length = n) (h6 : ∀ k ∈ ks, ∀ x ∈ k, 0 ≤ x ∧ x ≤ 6) {key : List Int} (hkey : key ∈ ks) : ∃ b ∈ gbList ks, inB b key = true :=
  gb_climb hks h6 (hks key hkey) (6 * n) key key hkey (fill_self hkey) (LeK.refl _) (LeK.refl _) (by omega)
theorem greatest_iff (hks : ∀ k ∈ ks, k.length = n) (h6 : ∀ k ∈ ks, ∀ x ∈ k, 0 ≤ x ∧ x ≤ 6) {key : List Int} (hk : key.length = n) : (∃ b ∈ greatestBy ks, inB b key = true) ↔ key ∈ ks := by
  constructor
  · rintro ⟨b, hb, hin⟩
    exact gb_sound hks ((greatest_perm ks).mem_iff.mp hb) hk hin
  · intro h
    obtain ⟨b, hb, hin⟩ := gb_full hks h6 h
    exact ⟨b, (greatest_perm ks).mem_iff.mpr hb, hin⟩
theorem greatest_nil (hks : ∀ k ∈ ks, k.length = n) (h6 : ∀ k ∈ ks, ∀ x ∈ k, 0 ≤ x ∧ x ≤ 6) : greatestBy ks = [] ↔ ks = [] := by
  constructor
  · intro h
    cases hks0 : ks with
    | nil => rfl
    | cons key r =>
      obtain ⟨b, hb, _⟩ := gb_full hks h6 (key := key) (by rw [hks0]; exact List.mem_cons_self)
      have := (greatest_perm ks).mem_iff.mpr hb
      rw [h] at this
      cases this
  · intro h
    cases hg : greatestBy ks with
    | nil => rfl
    | cons b r =>
      obtain ⟨low, _, h1, _⟩ := gb_mem ((greatest_perm ks).mem_iff.mp (by rw [hg]; exact List.mem_cons_self : b ∈ greatestBy ks))
      rw [h] at h1
      cases h1
/-- a box's gaps -/
theorem greatest_box (hks : ∀ k ∈ ks, k.length = n) (h6 : ∀ k ∈ ks, ∀ x ∈ k, 0 ≤ x ∧ x ≤ 6) {b : List (Int × Int)} (hb : b ∈ greatestBy ks) : b.length = n ∧ ∀ g ∈ b, 0 ≤ g.1 ∧ g.1 ≤ g.2 ∧ g.2 ≤ 6 := by
  obtain ⟨low, high, h1, h2, rfl⟩ := gb_mem ((greatest_perm ks).mem_iff.mp hb)
  have F := fill_fine hks (hks low h1)
  have l1 := hks low h1
  have l2 := F.len high h2
  refine ⟨by rw [List.length_zip, l1, l2]; omega, fun g hg => ?_⟩
  obtain ⟨i, hi⟩ := List.mem_iff_getElem?.mp hg
  have hz : (List.zip low high)[i]? = some g := hi
  rw [List.getElem?_zip_eq_some] at hz
  obtain ⟨z1, z2⟩ := hz
  have a1 := h6 low h1 g.1 (List.mem_of_getElem? z1)
  have a2 := h6 high (ff_all ks low high h2) g.2 (List.mem_of_getElem? z2)
  have a3 := F.le high h2 i
  unfold at0 at a3
  rw [z1, z2] at a3
  exact ⟨a1.1, a3, a2.2⟩
end
end WK
/-! WKMath2 -/
set_option Elab.async false
set_option linter.all false
set_option maxRecDepth 100000
set_option maxHeartbeats 1000000
/-! What records are: plain Lean, no program. -/
namespace WK
open PySem PySem.Spec PyProof.Rows L2
/-! ### doors -/
theorem head_filter {α : Type} (p : α → Bool) : ∀ l : List α, (l.filter p).head? = (l.findIdx? p).bind fun n => l[n]?
  | [] => rfl
  | x :: l => by
    have ih := head_filter p l
    rw [List.filter_cons, List.findIdx?_cons]
    cases hp : p x with
    | true => simp
    | false =>
      rw [if_neg (by decide), ih]
      simp
      cases l.findIdx? p with
      | none => rfl
      | some n => simp
theorem doors_head (h : Ho) (hall l : Int) : (doorsAt h hall l).head? = (doorAt h hall l).bind fun n => h.doors[n]? := head_filter _ _
theorem door_of {h : Ho} {hall l : Int} (hne : doorsAt h hall l ≠ []) : isN (optN (doorAt h hall l)) = false ∧ ∃ r, doorsAt h hall l = theDoor h hall l :: r := by
  have hd := doors_head h hall l
  cases e : doorsAt h hall l with
  | nil => exact absurd e hne
  | cons d r =>
    rw [e] at hd
    have hd : some d = (doorAt h hall l).bind fun n => h.doors[n]? := hd
    refine ⟨?_, r, ?_⟩
    · cases q : doorAt h hall l with
      | none =>
        rw [q] at hd
        cases hd
      | some n => rfl
    · unfold theDoor
      rw [← hd]
      rfl
theorem barAt_in {h : Ho} {hall l : Int} : ∀ (key : List Int) (n : Nat), (theDoor h hall l).gaps.length = n + key.length → isN (barAt h hall (.go l) (n : Int) key) = inB ((theDoor h hall l).gaps.drop n) key
  | [], n, e => by
    rw [List.drop_of_length_le (by simp at e; omega)]
    rfl
  | x :: r, n, e => by
    have hn : n < (theDoor h hall l).gaps.length := by simp at e; omega
    have ih := barAt_in (h := h) (hall := hall) (l := l) r (n + 1) (by simp at e; omega)
    have eg : gapOf h hall (.go l) (n : Int) = (theDoor h hall l).gaps[n] := by
      show (((theDoor h hall l).gaps[(n : Int).toNat]?).getD (0, 0)) = _
      rw [Int.toNat_natCast, List.getElem?_eq_getElem hn]
      rfl
    rw [List.drop_eq_getElem_cons hn]
    show isN (if x < (gapOf h hall (.go l) n).1 then .tuple [.str "low", .int n] else if (gapOf h hall (.go l) n).2 < x then .tuple [.str "high", .int n] else barAt h hall (.go l) ((n : Int) + 1) r) = ((decide ((theDoor h hall l).gaps[n].1 ≤ x) && decide (x ≤ (theDoor h hall l).gaps[n].2)) && inB ((theDoor h hall l).gaps.drop (n + 1)) r)
    rw [eg]
    by_cases h1 : x < (theDoor h hall l).gaps[n].1
    · rw [if_pos h1, decide_eq_false (by omega), Bool.false_and, Bool.false_and]
      rfl
    · rw [if_neg h1, decide_eq_true (by omega : (theDoor h hall l).gaps[n].1 ≤ x), Bool.true_and]
      by_cases h2 : (theDoor h hall l).gaps[n].2 < x
      · rw [if_pos h2, decide_eq_false (by omega), Bool.false_and]
        rfl
      · rw [if_neg h2, decide_eq_true (by omega : x ≤ (theDoor h hall l).gaps[n].2), Bool.true_and]
        exact ih
theorem opens_bar {h : Ho} (ok : HoOk h) {hall l : Int} {key : List Int} (hk : KeyOk h.teeth key) (hne : doorsAt h hall l ≠ []) : isN (bar h hall key (.go l)) = opens h hall l key := by
  obtain ⟨h1, r, h2⟩ := door_of hne
  have hm : theDoor h hall l ∈ h.doors := (List.mem_filter.mp (show theDoor h hall l ∈ doorsAt h hall l by rw [h2]; exact List.mem_cons_self)).1
  have hg := (ok.doors _ hm).gaps.1
  have hkl := hk.1
  unfold bar opens
  have ha : away h hall (.go l) = false := h1
  rw [ha, if_neg (by decide), h2]
  exact barAt_in key 0 (by omega)
/-! ### what a walker did and saw -/
inductive Ch (h : Ho) : Int → List Int → List (Option Entry) → Int → List Int → Prop
  | nil {hall : Int} {key : List Int} : Ch h hall key [] hall key
  | cons {hall hall1 hall2 : Int} {key key1 key2 : List Int} {e : Option Entry} {l : List (Option Entry)} : StepOk h hall key e hall1 key1 → Ch h hall1 key1 l hall2 key2 → Ch h hall key (e :: l) hall2 key2
theorem Ch.snoc {h : Ho} {hall1 hall2 : Int} {key1 key2 : List Int} {e : Option Entry} : ∀ {l : List (Option Entry)} {hall : Int} {key : List Int}, Ch h hall key l hall1 key1 → StepOk h hall1 key1 e hall2 key2 → Ch h hall key (l ++ [e]) hall2 key2
  | _, _, _, .nil, s => .cons s .nil
  | _, _, _, .cons s c, s2 => .cons s (c.snoc s2)
theorem step_some {h : Ho} (ok : HoOk h) {hall hall1 : Int} {key key1 : List Int} {e : Entry} (hk : KeyOk h.teeth key) (S : StepOk h hall key (some e) hall1 key1) :
    KeyOk h.teeth key1 ∧ EntryOk h e ∧ canStand h hall e = true ∧ hallAfter h hall e = hall1 ∧ ∀ (n : Int) (r : List Entry), againstFrom h n hall key (e :: r) = againstFrom h (n + 1) hall1 key1 r := by
  cases S with
  | shut l hl ho hc =>
    refine ⟨hk, by show 0 ≤ l ∧ l ≤ (h.wears.length : Int) - 1; omega, ?_, rfl, fun n r => ?_⟩
    · show (!isN (optN (doorAt h hall l))) = true
      rw [(door_of ho).1]
      rfl
    · show (if good h hall key (.shut l) = true then _ else _) = _
      rw [if_pos]
      show (!isN (bar h hall key (.go l))) = true
      rw [opens_bar ok hk ho, hc]
      rfl
  | seen t x lo hi ht h1 h2 h3 h4 =>
    have htl := (List.getElem?_eq_some_iff.mp ht).1
    have hkl := hk.1
    have t1 := ok.teeth
    have hx := hk.2 x (List.mem_of_getElem? ht)
    refine ⟨hk, ⟨by omega, by show 0 ≤ lo ∧ lo ≤ hi ∧ hi ≤ 6; omega⟩, rfl, rfl, fun n r => ?_⟩
    show (if good h hall key (.seen t lo hi) = true then _ else _) = _
    rw [if_pos]
    show (decide (lo ≤ (key[(t : Int).toNat]?).getD 0) && decide ((key[(t : Int).toNat]?).getD 0 ≤ hi)) = true
    rw [Int.toNat_natCast, ht]
    show (decide (lo ≤ x) && decide (x ≤ hi)) = true
    rw [decide_eq_true h2, decide_eq_true h3]
    rfl
  | deed d hd =>
    obtain ⟨h1, h2⟩ := may_ok ok hd
    refine ⟨done_ok ok hk h2, h1, ?_, rfl, fun n r => ?_⟩
    · show (!away h hall d) = true
      rw [bar_away h2]
      rfl
    · show (if isN (bar h hall key d) = true then _ else _) = _
      rw [if_pos h2]
theorem Ch.rec_ok {h : Ho} (ok : HoOk h) : ∀ {l : List (Option Entry)} {hall hall2 : Int} {key key2 : List Int}, Ch h hall key l hall2 key2 → KeyOk h.teeth key → KeyOk h.teeth key2 ∧ RecOk h hall (l.filterMap id) ∧ ∀ n, againstFrom h n hall key (l.filterMap id) = some []
  | _, _, _, _, _, .nil, hk => ⟨hk, True.intro, fun _ => rfl⟩
  | _, _, _, _, _, .cons (e := none) S c, hk => by
    cases S
    have := c.rec_ok ok hk
    exact this
  | _, _, _, _, _, .cons (e := some e) (l := l) S c, hk => by
    obtain ⟨h1, h2, h3, h4, h5⟩ := step_some ok hk S
    obtain ⟨i1, i2, i3⟩ := c.rec_ok ok h1
    refine ⟨i1, ⟨h2, h3, by rw [h4]; exact i2⟩, fun n => ?_⟩
    show againstFrom h n _ _ (e :: l.filterMap id) = some []
    rw [h5, i3]
theorem opt_map (l : List (Option Entry)) : ((l.map optE).filter fun d => !isN d).map id = (l.filterMap id).map entryD := by
  rw [List.map_id]
  induction l with
  | nil => rfl
  | cons e l ih =>
    cases e with
    | none => exact ih
    | some e =>
      rw [List.map_cons, List.filter_cons]
      have hn : isN (optE (some e)) = false := by
        show isN (entryD e) = false
        rw [entryD_eq]
        rfl
      rw [hn, if_pos (by rfl), ih]
      rfl
/-! ### whether a key fits -/
def fitB (h : Ho) : Int → List Int → List Entry → Bool
  | _, _, [] => true
  | hall, key, .deed d :: r => isN (bar h hall key d) && fitB h (hallBehind h hall d) (doneKey h d key) r
  | hall, key, .seen t lo hi :: r => inGap key t lo hi && fitB h hall key r
  | hall, key, .shut l :: r => (!isN (bar h hall key (.go l))) && fitB h hall key r
theorem map_nil {o : Option (List Int)} {n : Int} : o.map (n :: ·) ≠ some [] := by
  cases o with
  | none => intro z; cases z
  | some l => intro z; cases z
theorem fitB_iff {h : Ho} : ∀ (r : List Entry) (n hall : Int) (key : List Int), fitB h hall key r = true ↔ againstFrom h n hall key r = some []
  | [], _, _, _ => ⟨fun _ => rfl, fun _ => rfl⟩
  | .deed d :: r, n, hall, key => by
    have ih := fitB_iff (h := h) r (n + 1) (hallBehind h hall d) (doneKey h d key)
    show ((isN (bar h hall key d) && fitB h (hallBehind h hall d) (doneKey h d key) r) = true) ↔ (if isN (bar h hall key d) = true then againstFrom h (n + 1) (hallBehind h hall d) (doneKey h d key) r else none) = some []
    cases isN (bar h hall key d) with
    | true => rw [Bool.true_and, if_pos rfl]; exact ih
    | false => rw [Bool.false_and, if_neg (by decide)]; exact ⟨fun z => (by cases z), fun z => (by cases z)⟩
  | .seen t lo hi :: r, n, hall, key => by
    have ih := fitB_iff (h := h) r (n + 1) hall key
    show ((inGap key t lo hi && fitB h hall key r) = true) ↔ (if inGap key t lo hi = true then againstFrom h (n + 1) hall key r else (againstFrom h (n + 1) hall key r).map (n :: ·)) = some []
    cases inGap key t lo hi with
    | true => rw [Bool.true_and, if_pos rfl]; exact ih
    | false => rw [Bool.false_and, if_neg (by decide)]; exact ⟨fun z => (by cases z), fun z => absurd z map_nil⟩
  | .shut l :: r, n, hall, key => by
    have ih := fitB_iff (h := h) r (n + 1) hall key
    show (((!isN (bar h hall key (.go l))) && fitB h hall key r) = true) ↔ (if (!isN (bar h hall key (.go l))) = true then againstFrom h (n + 1) hall key r else (againstFrom h (n + 1) hall key r).map (n :: ·)) = some []
    cases (!isN (bar h hall key (.go l))) with
    | true => rw [Bool.true_and, if_pos rfl]; exact ih
    | false => rw [Bool.false_and, if_neg (by decide)]; exact ⟨fun z => (by cases z), fun z => absurd z map_nil⟩
theorem ag_iff {h : Ho} {hall : Int} {r : List Entry} {ks : List (List Int)} {key l : List Int} : (key, l) ∈ agAll h hall r ks ↔ key ∈ ks ∧ againstFrom h 0 hall key r = some l := by
  unfold agAll
  rw [List.mem_filterMap]
  constructor
  · rintro ⟨k2, h1, h2⟩
    cases e : againstFrom h 0 hall k2 r with
    | none =>
      rw [e] at h2
      cases h2
    | some m =>
      rw [e] at h2
      cases h2
      exact ⟨h1, e⟩
  · rintro ⟨h1, h2⟩
    exact ⟨key, h1, by rw [h2]; rfl⟩
theorem keys_iff {h : Ho} (ok : HoOk h) {key : List Int} : key ∈ allKeys h.teeth.toNat ↔ KeyOk h.teeth key := by
  have t1 := ok.teeth
  rw [allKeys_mem, Int.toNat_of_nonneg (by omega)]
theorem fitKeys_iff {h : Ho} (ok : HoOk h) {hall : Int} {r : List Entry} {key : List Int} : key ∈ fitKeys h hall r ↔ KeyOk h.teeth key ∧ fitB h hall key r = true := by
  unfold fitKeys
  rw [List.mem_map, fitB_iff r 0]
  constructor
  · rintro ⟨⟨k, l⟩, h1, rfl⟩
    obtain ⟨h2, h3⟩ := List.mem_filter.mp h1
    obtain ⟨h4, h5⟩ := ag_iff.mp h2
    have e : l = [] := List.isEmpty_iff.mp h3
    subst e
    exact ⟨(keys_iff ok).mp h4, h5⟩
  · rintro ⟨h1, h2⟩
    exact ⟨(key, []), List.mem_filter.mpr ⟨ag_iff.mpr ⟨(keys_iff ok).mpr h1, h2⟩, rfl⟩, rfl⟩
theorem fit_len {h : Ho} (ok : HoOk h) {hall : Int} {r : List Entry} : ∀ k ∈ fitKeys h hall r, k.length = h.teeth.toNat := fun k hk => by
  have := ((fitKeys_iff ok).mp hk).1.1
  omega
theorem fit_in {h : Ho} (ok : HoOk h) {hall : Int} {r : List Entry} : ∀ k ∈ fitKeys h hall r, ∀ x ∈ k, 0 ≤ x ∧ x ≤ 6 := fun k hk => ((fitKeys_iff ok).mp hk).1.2
def boxesOf (h : Ho) (hall : Int) (r : List Entry) : List (List (Int × Int)) := greatestBy (fitKeys h hall r)
theorem boxes_iff {h : Ho} (ok : HoOk h) {hall : Int} {r : List Entry} {key : List Int} (hk : KeyOk h.teeth key) : (∃ b ∈ boxesOf h hall r, inB b key = true) ↔ fitB h hall key r = true := by
  have hl := hk.1
  have := greatest_iff (fit_len ok (hall := hall) (r := r)) (fit_in ok) (key := key) (by omega)
  unfold boxesOf
  rw [this, fitKeys_iff ok]
  exact ⟨fun z => z.2, fun z => ⟨hk, z⟩⟩
theorem boxes_nil {h : Ho} (ok : HoOk h) {hall : Int} {r : List Entry} : boxesOf h hall r = [] ↔ ∀ key, KeyOk h.teeth key → fitB h hall key r = false := by
  unfold boxesOf
  rw [greatest_nil (fit_len ok) (fit_in ok)]
  constructor
  · intro e key hk
    cases hf : fitB h hall key r with
    | false => rfl
    | true =>
      have := (fitKeys_iff ok).mpr ⟨hk, hf⟩
      rw [e] at this
      cases this
  · intro e
    cases hf : fitKeys h hall r with
    | nil => rfl
    | cons k l =>
      obtain ⟨h1, h2⟩ := (fitKeys_iff ok (hall := hall) (r := r) (key := k)).mp (by rw [hf]; exact List.mem_cons_self)
      rw [e k h1] at h2
      cases h2
theorem boxes_each {h : Ho} (ok : HoOk h) {hall : Int} {r : List Entry} {b : List (Int × Int)} (hb : b ∈ boxesOf h hall r) : BoxOk h.teeth b := by
  have t1 := ok.teeth
  obtain ⟨h1, h2⟩ := greatest_box (fit_len ok) (fit_in ok) hb
  exact ⟨by omega, h2⟩
/-! ### part of a record -/
def subRec (keep : Int → Bool) : Int → List Entry → List Entry
  | _, [] => []
  | n, e :: r => if (keep n || e.isDeed) = true then e :: subRec keep (n + 1) r else subRec keep (n + 1) r
theorem sub_len (keep : Int → Bool) : ∀ (r : List Entry) (n : Int), (subRec keep n r).length ≤ r.length
  | [], _ => Nat.le_refl _
  | e :: r, n => by
    have := sub_len keep r (n + 1)
    unfold subRec
    split
    · rw [List.length_cons, List.length_cons]
      omega
    · rw [List.length_cons]
      omega
theorem sub_rec (keep : Int → Bool) {h : Ho} : ∀ (r : List Entry) (n hall : Int), RecOk h hall r → RecOk h hall (subRec keep n r)
  | [], _, _, _ => True.intro
  | e :: r, n, hall, hr => by
    obtain ⟨h1, h2, h3⟩ := hr
    have ih := sub_rec keep r (n + 1) (hallAfter h hall e) h3
    unfold subRec
    split
    · exact ⟨h1, h2, ih⟩
    · rename_i hn
      cases e with
      | deed d => exact absurd (by show (keep n || true) = true; rw [Bool.or_true]) hn
      | shut l => exact ih
      | seen t lo hi => exact ih
theorem sub_fit (keep : Int → Bool) {h : Ho} : ∀ (r : List Entry) (n hall : Int) (key : List Int), fitB h hall key (subRec keep n r) = true ↔ ∃ l, againstFrom h n hall key r = some l ∧ ∀ x ∈ l, keep x = false
  | [], _, _, _ => ⟨fun _ => ⟨[], rfl, fun x hx => by cases hx⟩, fun _ => rfl⟩
  | .deed d :: r, n, hall, key => by
    have ih := sub_fit keep (h := h) r (n + 1) (hallBehind h hall d) (doneKey h d key)
    have es : subRec keep n (.deed d :: r) = .deed d :: subRec keep (n + 1) r := if_pos (by show (keep n || true) = true; rw [Bool.or_true])
    rw [es]
    show ((isN (bar h hall key d) && fitB h (hallBehind h hall d) (doneKey h d key) (subRec keep (n + 1) r)) = true) ↔ ∃ l, (if isN (bar h hall key d) = true then againstFrom h (n + 1) (hallBehind h hall d) (doneKey h d key) r else none) = some l ∧ _
    cases isN (bar h hall key d) with
    | true =>
      rw [Bool.true_and, if_pos rfl]
      exact ih
    | false =>
      rw [Bool.false_and, if_neg (by decide)]
      exact ⟨fun z => (by cases z), fun ⟨l, z, _⟩ => (by cases z)⟩
  | .seen t lo hi :: r, n, hall, key => by
    have ih := sub_fit keep (h := h) r (n + 1) hall key
    exact key_step (e := .seen t lo hi) rfl (fun {_} => rfl) (by rfl) ih
  | .shut l :: r, n, hall, key => by
    have ih := sub_fit keep (h := h) r (n + 1) hall key
    exact key_step (e := .shut l) rfl (fun {_} => rfl) (by rfl) ih
where
  key_step {keep : Int → Bool} {h : Ho} {r : List Entry} {n hall : Int} {key : List Int} {e : Entry} (hd : e.isDeed = false) (hf : ∀ {s : List Entry}, fitB h hall key (e :: s) = (good h hall key e && fitB h hall key s)) (ha : againstFrom h n hall key (e :: r) = if good h hall key e = true then againstFrom h (n + 1) hall key r else (againstFrom h (n + 1) hall key r).map (n :: ·))
      (ih : fitB h hall key (subRec keep (n + 1) r) = true ↔ ∃ l, againstFrom h (n + 1) hall key r = some l ∧ ∀ x ∈ l, keep x = false) : fitB h hall key (subRec keep n (e :: r)) = true ↔ ∃ l, againstFrom h n hall key (e :: r) = some l ∧ ∀ x ∈ l, keep x = false := by
    rw [ha]
    have es : subRec keep n (e :: r) = if (keep n || e.isDeed) = true then e :: subRec keep (n + 1) r else subRec keep (n + 1) r := rfl
    rw [es, hd, Bool.or_false]
    have up : keep n = false → ((∃ l, againstFrom h (n + 1) hall key r = some l ∧ ∀ x ∈ l, keep x = false) ↔ ∃ l, (againstFrom h (n + 1) hall key r).map (n :: ·) = some l ∧ ∀ x ∈ l, keep x = false) := fun hkn => by
      constructor
      · rintro ⟨l, z1, z2⟩
        refine ⟨n :: l, by rw [z1]; rfl, fun x hx => ?_⟩
        rcases List.mem_cons.mp hx with rfl | hx
        · exact hkn
        · exact z2 x hx
      · rintro ⟨l, z1, z2⟩
        cases q : againstFrom h (n + 1) hall key r with
        | none => rw [q] at z1; cases z1
        | some m =>
          rw [q] at z1
          cases z1
          exact ⟨m, rfl, fun x hx => z2 x (List.mem_cons_of_mem _ hx)⟩
    cases hkn : keep n with
    | true =>
      rw [if_pos rfl, hf]
      cases hg : good h hall key e with
      | true => rw [Bool.true_and, if_pos rfl]; exact ih
      | false =>
        rw [Bool.false_and, if_neg (by decide)]
        refine ⟨fun z => (by cases z), fun ⟨l, z1, z2⟩ => ?_⟩
        cases q : againstFrom h (n + 1) hall key r with
        | none => rw [q] at z1; cases z1
        | some m =>
          rw [q] at z1
          cases z1
          have := z2 n List.mem_cons_self
          rw [hkn] at this
          cases this
    | false =>
      rw [if_neg (by decide)]
      cases hg : good h hall key e with
      | true => rw [if_pos rfl]; exact ih
      | false => rw [if_neg (by decide), ih]; exact up hkn
theorem ag_mem {h : Ho} : ∀ {r : List Entry} {n hall : Int} {key l : List Int}, againstFrom h n hall key r = some l → ∀ x ∈ l, x ∈ entriesFrom n r
  | [], _, _, _, l, e, x, hx => by
    cases e
    cases hx
  | .deed d :: r, n, hall, key, l, e, x, hx => by
    have e : (if isN (bar h hall key d) = true then againstFrom h (n + 1) (hallBehind h hall d) (doneKey h d key) r else none) = some l := e
    split at e
    · exact ag_mem e x hx
    · cases e
  | .seen t lo hi :: r, n, hall, key, l, e, x, hx => by
    have e : (if good h hall key (.seen t lo hi) = true then againstFrom h (n + 1) hall key r else (againstFrom h (n + 1) hall key r).map (n :: ·)) = some l := e
    show x ∈ n :: entriesFrom (n + 1) r
    split at e
    · exact List.mem_cons_of_mem _ (ag_mem e x hx)
    · cases q : againstFrom h (n + 1) hall key r with
      | none => rw [q] at e; cases e
      | some m =>
        rw [q] at e
        cases e
        rcases List.mem_cons.mp hx with rfl | hx
        · exact List.mem_cons_self
        · exact List.mem_cons_of_mem _ (ag_mem q x hx)
  | .shut s :: r, n, hall, key, l, e, x, hx => by
    have e : (if good h hall key (.shut s) = true then againstFrom h (n + 1) hall key r else (againstFrom h (n + 1) hall key r).map (n :: ·)) = some l := e
    show x ∈ n :: entriesFrom (n + 1) r
    split at e
    · exact List.mem_cons_of_mem _ (ag_mem e x hx)
    · cases q : againstFrom h (n + 1) hall key r with
      | none => rw [q] at e; cases e
      | some m =>
        rw [q] at e
        cases e
        rcases List.mem_cons.mp hx with rfl | hx
        · exact List.mem_cons_self
        · exact List.mem_cons_of_mem _ (ag_mem q x hx)
/-! ### lots -/
theorem lots_mem {ns : List Int} : ∀ {m : Nat} {lot : List Int}, lot ∈ lotsOf ns m ↔ lot.length = m ∧ lot.Pairwise (· < ·) ∧ ∀ x ∈ lot, x ∈ ns
  | 0, lot => by
    show lot ∈ [[]] ↔ _
    constructor
    · intro h
      have e : lot = [] := by simpa using h
      rw [e]
      exact ⟨rfl, .nil, fun x hx => by cases hx⟩
    · rintro ⟨h, _⟩
      rw [List.eq_nil_of_length_eq_zero h]
      exact List.mem_singleton.mpr rfl
  | m + 1, lot => by
    constructor
    · intro h
      obtain ⟨l2, h1, h2⟩ := List.mem_flatMap.mp h
      obtain ⟨one, h3, rfl⟩ := List.mem_map.mp h2
      obtain ⟨a1, a2, a3⟩ := lots_mem.mp h1
      obtain ⟨b1, b2⟩ := List.mem_filter.mp h3
      refine ⟨by rw [List.length_append, a1]; rfl, List.pairwise_append.mpr ⟨a2, List.pairwise_singleton _ _, fun x hx y hy => ?_⟩, fun x hx => ?_⟩
      · obtain rfl := List.mem_singleton.mp hy
        unfold lotB at b2
        rcases Bool.or_eq_true_iff.mp b2 with z | z
        · rw [List.isEmpty_iff.mp z] at hx
          cases hx
        · have z := of_decide_eq_true z
          have hne : l2 ≠ [] := List.ne_nil_of_mem hx
          rw [List.getLastD_eq_getLast?, List.getLast?_eq_some_getLast hne] at z
          have z : l2.getLast hne < y := z
          have e := List.dropLast_concat_getLast hne
          rw [← e] at hx a2
          rcases List.mem_append.mp hx with w | w
          · have := (List.pairwise_append.mp a2).2.2 x w _ (List.mem_singleton.mpr rfl)
            omega
          · rw [List.mem_singleton.mp w]
            exact z
      · rcases List.mem_append.mp hx with w | w
        · exact a3 x w
        · rw [List.mem_singleton.mp w]
          exact b1
    · rintro ⟨h1, h2, h3⟩
      have hne : lot ≠ [] := fun z => by
        rw [z] at h1
        cases h1
      have e := List.dropLast_concat_getLast hne
      have hl := h3 _ (List.getLast_mem hne)
      refine List.mem_flatMap.mpr ⟨lot.dropLast, lots_mem.mpr ⟨by rw [List.length_dropLast]; omega, h2.sublist (List.dropLast_sublist _), fun x hx => h3 x (List.dropLast_subset _ hx)⟩, List.mem_map.mpr ⟨lot.getLast hne, List.mem_filter.mpr ⟨hl, ?_⟩, e⟩⟩
      unfold lotB
      cases hd : lot.dropLast with
      | nil => rfl
      | cons y l =>
        rw [Bool.or_eq_true_iff]
        refine .inr (decide_eq_true ?_)
        have hne2 : lot.dropLast ≠ [] := by
          rw [hd]
          exact List.cons_ne_nil _ _
        rw [← hd, List.getLastD_eq_getLast?, List.getLast?_eq_some_getLast hne2]
        rw [← e] at h2
        exact (List.pairwise_append.mp h2).2.2 _ (List.getLast_mem hne2) _ (List.mem_singleton.mpr rfl)
/-! ### what clashes -/
theorem rowStep_mem (acc : List (List Int)) (l k : List Int) : k ∈ rowStep acc l ↔ k ∈ acc ∨ k = l := by
  unfold rowStep
  split
  · rename_i h
    exact ⟨.inl, fun z => z.elim id fun e => e ▸ h⟩
  · rw [List.mem_append, List.mem_singleton]
theorem rowFold_mem : ∀ (ls acc : List (List Int)) (k : List Int), k ∈ ls.foldl rowStep acc ↔ k ∈ acc ∨ k ∈ ls
  | [], acc, k => by simp
  | l :: ls, acc, k => by
    rw [List.foldl_cons, rowFold_mem ls, rowStep_mem, List.mem_cons]
    constructor
    · rintro ((z | z) | z)
      · exact .inl z
      · exact .inr (.inl z)
      · exact .inr (.inr z)
    · rintro (z | z | z)
      · exact .inl (.inl z)
      · exact .inl (.inr z)
      · exact .inr z
theorem rows_mem {h : Ho} (ok : HoOk h) {hall : Int} {r : List Entry} {l : List Int} : l ∈ rowsAll h hall r ↔ ∃ key, KeyOk h.teeth key ∧ againstFrom h 0 hall key r = some l := by
  unfold rowsAll rowsOf
  rw [rowFold_mem]
  constructor
  · rintro (z | z)
    · cases z
    · obtain ⟨⟨key, m⟩, h1, rfl⟩ := List.mem_map.mp z
      obtain ⟨h2, h3⟩ := ag_iff.mp h1
      exact ⟨key, (keys_iff ok).mp h2, h3⟩
  · rintro ⟨key, h1, h2⟩
    exact .inr (List.mem_map.mpr ⟨(key, l), ag_iff.mpr ⟨(keys_iff ok).mpr h1, h2⟩, rfl⟩)
theorem hits_iff {lot row : List Int} : hits lot row = true ↔ ∃ n ∈ lot, n ∈ row := by
  unfold hits
  rw [List.any_eq_true]
  constructor
  · rintro ⟨n, h1, h2⟩
    obtain ⟨b, h3, h4⟩ := List.any_eq_true.mp h2
    exact ⟨n, h1, by rw [← eq_of_beq h4]; exact h3⟩
  · rintro ⟨n, h1, h2⟩
    exact ⟨n, h1, List.any_eq_true.mpr ⟨n, h2, by simp⟩⟩
theorem hitsAll_iff {rows : List (List Int)} {lot : List Int} : hitsAll rows lot = true ↔ ∀ row ∈ rows, ∃ n ∈ lot, n ∈ row := by
  unfold hitsAll
  rw [List.all_map, List.all_eq_true]
  exact ⟨fun h row hr => hits_iff.mp (h row hr), fun h row hr => hits_iff.mpr (h row hr)⟩
theorem clash_none {h : Ho} (ok : HoOk h) {hall : Int} {r : List Entry} : clashOf h hall r = none ↔ [] ∈ rowsAll h hall r := by
  constructor
  · intro hc
    unfold clashOf at hc
    by_cases hno : [] ∈ rowsAll h hall r
    · exact hno
    · rw [if_neg hno, List.findSome?_eq_none_iff] at hc
      have := hc (entriesOf r).length (List.mem_range.mpr (by omega))
      rw [List.find?_eq_none] at this
      have hE := this (entriesOf r) (lots_mem.mpr ⟨rfl, entries_rise r 0, fun x hx => hx⟩)
      refine absurd (hitsAll_iff.mpr fun row hr => ?_) hE
      obtain ⟨key, h1, h2⟩ := (rows_mem ok).mp hr
      cases row with
      | nil => exact absurd hr hno
      | cons n row => exact ⟨n, ag_mem h2 n List.mem_cons_self, List.mem_cons_self⟩
  · intro hno
    unfold clashOf
    rw [if_pos hno]
theorem findSome_from {α : Type} {f : Nat → Option α} {y : α} : ∀ {n : Nat}, (List.range n).findSome? f = some y → ∃ m, f m = some y ∧ ∀ j, j < m → f j = none := by
  intro n h
  induction n with
  | zero => cases h
  | succ n ih =>
    rw [List.range_succ, List.findSome?_append] at h
    cases e : (List.range n).findSome? f with
    | some z =>
      rw [e] at h
      have hz : z = y := Option.some.inj h
      exact ih (by rw [e, hz])
    | none =>
      rw [e] at h
      rw [List.findSome?_eq_none_iff] at e
      have h2 : f n = some y := by
        simpa using h
      exact ⟨n, h2, fun j hj => e j (List.mem_range.mpr hj)⟩
theorem clash_some {h : Ho} {hall : Int} {r : List Entry} {lot : List Int} (hc : clashOf h hall r = some lot) : hitsAll (rowsAll h hall r) lot = true ∧ lot.Pairwise (· < ·) ∧ (∀ x ∈ lot, x ∈ entriesOf r) ∧ ∀ j lot2, j < lot.length → lot2 ∈ lotsOf (entriesOf r) j → hitsAll (rowsAll h hall r) lot2 = false := by
  unfold clashOf at hc
  split at hc
  · cases hc
  · obtain ⟨m, h1, h2⟩ := findSome_from hc
    obtain ⟨a1, a2, a3⟩ := lots_mem.mp (List.mem_of_find?_eq_some h1)
    refine ⟨List.find?_some h1, a2, a3, fun j lot2 hj hl => ?_⟩
    rw [a1] at hj
    have := List.find?_eq_none.mp (h2 j hj) lot2 hl
    simpa using this
theorem clash_boxes {h : Ho} (ok : HoOk h) {hall : Int} {r : List Entry} : clashOf h hall r = none ↔ boxesOf h hall r ≠ [] := by
  rw [clash_none ok, rows_mem ok, Ne, boxes_nil ok]
  constructor
  · rintro ⟨key, h1, h2⟩ z
    have := z key h1
    rw [(fitB_iff r 0 hall key).mpr h2] at this
    cases this
  · intro z
    obtain ⟨key, hz⟩ := Classical.not_forall.mp z
    obtain ⟨h1, h2⟩ := Classical.not_imp.mp hz
    exact ⟨key, h1, (fitB_iff r 0 hall key).mp (by simpa using h2)⟩
/-- the lot alone clashes -/
theorem clash_alone {h : Ho} (ok : HoOk h) {hall : Int} {r : List Entry} {lot : List Int} (hc : clashOf h hall r = some lot) (keep : Int → Bool) (hk : ∀ x ∈ lot, keep x = true) : boxesOf h hall (subRec keep 0 r) = [] := by
  rw [boxes_nil ok]
  intro key hkey
  cases hf : fitB h hall key (subRec keep 0 r) with
  | false => rfl
  | true =>
    obtain ⟨l, h1, h2⟩ := (sub_fit keep r 0 hall key).mp hf
    obtain ⟨n, h3, h4⟩ := hitsAll_iff.mp (clash_some hc).1 l ((rows_mem ok).mpr ⟨key, hkey, h1⟩)
    have := h2 n h4
    rw [hk n h3] at this
    cases this
/-- without one of its numbers it does not -/
theorem clash_less {h : Ho} (ok : HoOk h) {hall : Int} {r : List Entry} {lot : List Int} (hc : clashOf h hall r = some lot) {n0 : Int} (hn : n0 ∈ lot) (keep : Int → Bool) (hk : ∀ x, keep x = true → x ∈ lot ∧ x ≠ n0) : boxesOf h hall (subRec keep 0 r) ≠ [] := by
  obtain ⟨h1, h2, h3, h4⟩ := clash_some hc
  have hlt : (lot.filter fun x => decide (x ≠ n0)).length < lot.length := by
    refine Nat.lt_of_le_of_ne (List.length_filter_le _ _) fun z => ?_
    have := List.length_filter_eq_length_iff.mp z n0 hn
    simp at this
  have h5 := h4 _ (lot.filter fun x => decide (x ≠ n0)) hlt (lots_mem.mpr ⟨rfl, h2.sublist List.filter_sublist, fun x hx => h3 x (List.mem_filter.mp hx).1⟩)
  intro z
  have hall2 : hitsAll (rowsAll h hall r) (lot.filter fun x => decide (x ≠ n0)) = true := hitsAll_iff.mpr fun row hr => by
    obtain ⟨key, hkey, hag⟩ := (rows_mem ok).mp hr
    have hf := (boxes_nil ok).mp z key hkey
    apply Classical.byContradiction
    intro hno
    have : fitB h hall key (subRec keep 0 r) = true := (sub_fit keep r 0 hall key).mpr ⟨row, hag, fun x hx => by
      cases hkx : keep x with
      | false => rfl
      | true =>
        obtain ⟨b1, b2⟩ := hk x hkx
        exact absurd ⟨x, List.mem_filter.mpr ⟨b1, decide_eq_true b2⟩, hx⟩ hno⟩
    rw [hf] at this
    cases this
  rw [hall2] at h5
  cases h5
/-! ### told otherwise -/
theorem bent_fit {h : Ho} {t lo hi lo2 hi2 : Int} (hd : hi2 < lo ∨ hi < lo2) : ∀ {r : List Entry} {s : Nat} {hall : Int} {key : List Int}, r[s]? = some (.seen t lo hi) → fitB h hall key r = true → fitB h hall key (r.set s (.seen t lo2 hi2)) = false
  | [], s, hall, key, e, _ => by simp at e
  | x :: r, 0, hall, key, e, hf => by
    have e : x = .seen t lo hi := by simpa using e
    subst e
    have hf : (inGap key t lo hi && fitB h hall key r) = true := hf
    have h1 := (Bool.and_eq_true_iff.mp hf).1
    show (inGap key t lo2 hi2 && fitB h hall key r) = false
    have h2 : inGap key t lo2 hi2 = false := by
      unfold inGap at h1 ⊢
      obtain ⟨a1, a2⟩ := Bool.and_eq_true_iff.mp h1
      have a1 := of_decide_eq_true a1
      have a2 := of_decide_eq_true a2
      rw [Bool.and_eq_false_iff]
      rcases hd with z | z
      · exact .inr (decide_eq_false (by omega))
      · exact .inl (decide_eq_false (by omega))
    rw [h2, Bool.false_and]
  | .deed d :: r, s + 1, hall, key, e, hf => by
    have hf : (isN (bar h hall key d) && fitB h (hallBehind h hall d) (doneKey h d key) r) = true := hf
    have ih := bent_fit hd (r := r) (s := s) (by simpa using e) (Bool.and_eq_true_iff.mp hf).2
    show (isN (bar h hall key d) && fitB h (hallBehind h hall d) (doneKey h d key) (r.set s (.seen t lo2 hi2))) = false
    rw [ih, Bool.and_false]
  | .seen t' a b :: r, s + 1, hall, key, e, hf => by
    have hf : (inGap key t' a b && fitB h hall key r) = true := hf
    have ih := bent_fit hd (r := r) (s := s) (by simpa using e) (Bool.and_eq_true_iff.mp hf).2
    show (inGap key t' a b && fitB h hall key (r.set s (.seen t lo2 hi2))) = false
    rw [ih, Bool.and_false]
  | .shut l :: r, s + 1, hall, key, e, hf => by
    have hf : ((!isN (bar h hall key (.go l))) && fitB h hall key r) = true := hf
    have ih := bent_fit hd (r := r) (s := s) (by simpa using e) (Bool.and_eq_true_iff.mp hf).2
    show ((!isN (bar h hall key (.go l))) && fitB h hall key (r.set s (.seen t lo2 hi2))) = false
    rw [ih, Bool.and_false]
theorem bent_rec {h : Ho} {t lo hi lo2 hi2 : Int} (hg : GapOk (lo2, hi2)) : ∀ {r : List Entry} {s : Nat} {hall : Int}, r[s]? = some (.seen t lo hi) → RecOk h hall r → RecOk h hall (r.set s (.seen t lo2 hi2))
  | [], s, hall, e, _ => by simp at e
  | x :: r, 0, hall, e, hr => by
    have e : x = .seen t lo hi := by simpa using e
    subst e
    exact ⟨⟨hr.1.1, hg⟩, rfl, hr.2.2⟩
  | x :: r, s + 1, hall, e, hr => ⟨hr.1, hr.2.1, bent_rec hg (r := r) (s := s) (by simpa using e) hr.2.2⟩
theorem rec_at {h : Ho} : ∀ {r : List Entry} {s : Nat} {hall : Int} {e : Entry}, r[s]? = some e → RecOk h hall r → EntryOk h e := fun he hr => rec_each hr _ (List.mem_of_getElem? he)
end WK
/-! WKRaise -/
set_option Elab.async false
set_option linter.all false
set_option maxRecDepth 100000
set_option maxHeartbeats 1000000
/-! turn and play, where a deed is barred. -/
namespace L2
open PySem PySem.Spec PyProof.Rows
section
variable {X : Cx} {C : Addr} {bmB : List Value} {B newId initId : String}
/-- an own exception made of nothing -/
theorem pmk_none {x : Str} {p pos : Pos} (F : ExcBaseFacts B newId initId bmB) (q : PySem.W.excIn X.K C bmB newId = true) (gC : X.mg x = some (.ref C)) (kC : PySem.W.keepIn X.K (.ref C) = true) (r : Raises X (.ref C)) (hg : Gl X x)
    (hdb : (x == ("__debug__" : Str)) = false) : PMk X (.Call (.Name x p) [] [] pos) (fun _ H Q => Q (.ref C) none H) := by
  intro pins s σ H Q I h
  refine wpAny_Call_Name_kw (ld_glob I hg gC ?_ hdb)
  refine PySem.W.callWith_K0 I.kIn kC ?_
  show wpAny _ _ (call (.ref C) []) _ _ _
  obtain ⟨bm, N, nm, qn, bs, hdct, sn, sub, ab, col, dd, k0, k1, k2, k3, k5, mN, hC, hN, hni, T⟩ := exc_obj I.kIn q
  exact wpAny_call_exc_subT F T hC hN hni (fun h' e hm => mk_of I hm r h (I.hok.gone hm.new)) (Nat.zero_le _)
end
end L2
namespace WK
open PySem PySem.Spec PyProof.Rows L2
abbrev BC (K : PySem.W.Frag) : Addr := He.ga K "Barred"
abbrev ZC (K : PySem.W.Frag) : Addr := He.ga K "WearError"
def isExcF (x : Str) : He.Fa → Bool
  | .exc y => decide (y = x)
  | _ => false
def isExmF (x z : Str) : He.Fa → Bool
  | .exm y g true => decide (y = x) && decide (g = z)
  | _ => false
theorem Tx.exc {K : PySem.W.Frag} {mg : Str → Option Value} (T : Tx K mg) : PySem.W.excIn K (BC K) He.veBase "ValueError.__new__" = true ∧ PySem.W.keepIn K (.ref (BC K)) = true ∧ PySem.W.subIn K (.ref (BC K)) (.type "BaseException") = some true ∧ PySem.W.typeIn K (.ref (BC K)) = some (.type "type") := by
  obtain ⟨f, _, h2, h3⟩ := T.fact (p := isExcF "Barred") (by decide +kernel)
  cases f with
  | exc y =>
    have e : y = "Barred" := of_decide_eq_true h2
    subst e
    exact He.exc_ok h3
  | _ => exact Bool.noConfusion h2
theorem Tx.exm {K : PySem.W.Frag} {mg : Str → Option Value} (T : Tx K mg) : PySem.W.exmOne K (.ref (BC K)) (.ref (ZC K)) = some true := by
  obtain ⟨f, _, h2, h3⟩ := T.fact (p := isExmF "Barred" "WearError") (by decide +kernel)
  cases f with
  | exm y g b =>
    cases b with
    | true =>
      obtain ⟨e1, e2⟩ := Bool.and_eq_true_iff.mp h2
      have e1 : y = "Barred" := of_decide_eq_true e1
      have e2 : g = "WearError" := of_decide_eq_true e2
      subst e1 e2
      exact He.exm_ok h3
    | false => exact Bool.noConfusion h2
  | _ => exact Bool.noConfusion h2
/-- turn, play: told or barred -/
def SpDo (K : PySem.W.Frag) : Sp := fun vs H Q E => ∃ x vr pl h hall key n d, vs = [V.ref x, vr] ∧ WkAt K H x pl h hall key n ∧ Rp H vr (.tuple [deedD d]) ∧ HoOk h ∧ KeyOk h.teeth key ∧ DeedOk h d ∧ n ≤ 1000 ∧
  (isN (bar h hall key d) = true → ∀ H', Kp [x, pl] H H' → WkAt K H' x pl h (hallBehind h hall d) (doneKey h d key) (n + 1) → Q .non H') ∧ (isN (bar h hall key d) = false → ∀ H', Ex H H' → E (.ref (BC K)) none H')
/-- the barred way alone -/
def SpBar (K : PySem.W.Frag) : Sp := fun vs H Q E => ∃ x vr pl h hall key n d, vs = [V.ref x, vr] ∧ WkAt K H x pl h hall key n ∧ Rp H vr (.tuple [deedD d]) ∧ HoOk h ∧ KeyOk h.teeth key ∧ DeedOk h d ∧ isN (bar h hall key d) = false ∧ ∀ H', Ex H H' → E (.ref (BC K)) none H'
theorem len_bar (K : PySem.W.Frag) : ∀ vs H Q E, SpBar K vs H Q E → vs.length = (["self", "row"] : List Str).length := fun vs H Q E ⟨_, _, _, _, _, _, _, _, h, _⟩ => by rw [h]; rfl
theorem len_do (K : PySem.W.Frag) : ∀ vs H Q E, SpDo K vs H Q E → vs.length = (["self", "row"] : List Str).length := fun vs H Q E ⟨_, _, _, _, _, _, _, _, h, _⟩ => by rw [h]; rfl
theorem do_of {P : Program} {w : World} {K : PySem.W.Frag} {mg : Str → Option Value} {base : Heap} {k : Nat} {f : Addr} {fd : FuncData} (F1 : FnOk P w K mg base CX0 k f fd ["self", "row"] (SpTurn K)) (F2 : FnOk P w K mg base (L2.CX P w) k f fd ["self", "row"] (SpBar K)) : FnOk P w K mg base (L2.CX P w) k f fd ["self", "row"] (SpDo K) := by
  refine ⟨len_do K, fun A outer s H args us vs Q E hr e0 hb r hs => ?_⟩
  obtain ⟨x, vr, pl, h, hall, key, n, d, ev, wk, rr, ok, hk, hd, hn, q1, q2⟩ := hs
  cases hbar : isN (bar h hall key d) with
  | true =>
    refine codeAny_mono (F1.run A outer s H args us vs Q E hr e0 hb r ⟨x, vr, pl, h, hall, key, n, d, ev, wk, rr, ok, hk, hd, hbar, hn, q1 hbar⟩) fun r s' hq => ?_
    cases r with
    | error e => exact hq.elim
    | ok fl => cases fl <;> exact hq
  | false => exact F2.run A outer s H args us vs Q E hr e0 hb r ⟨x, vr, pl, h, hall, key, n, d, ev, wk, rr, ok, hk, hd, hbar, q2 hbar⟩
theorem nvok_start {X : Cx} {vs : List V} {ss : List Sl} {ps more : List Str} {H : Hp} {sc : Scope} (hs : X.env.scope = sc) (hN : X.N = ps ++ more) (q : StA H vs ss) (hl : ps.length = ss.length) (hv : ps.all (visB sc) = true) : NvOk X H (L2.start (ps ++ more) vs) (nvS ps ss more) := by
  refine ⟨hN.trans (nvS_names hl), ?_, fun p hp hn => by rw [hs]; exact nvS_vis hv p hp hn⟩
  have := nvS_start (more := more) q hl
  unfold L2.start
  rw [List.length_append, q.len, ← hl, Nat.add_sub_cancel_left]
  exact this
/-- a method that may raise -/
theorem Meth.mkX {P : Program} {w : World} {K : PySem.W.Frag} {mg : Str → Option Value} {m q : Str} {st : Stmt} {k : Nat} {N ps : List Str} {sp : Sp} (T : Tx K mg) (hd : dM "Walker" m q st ∈ fn) (S : FnScope N ps (defScope st))
    (hb : ∀ (kV doc pm : Value) (an : Option Addr) (cdv ct : Value) (us : List Value), us.length = ps.length → bindArgs (PySem.W.fnOf m q (defArgs st) (defBody st) (defScope st) .none kV doc pm an cdv ct) ⟨us, []⟩ = pure (ps.zip us))
    (len : ∀ vs H Q E, sp vs H Q E → vs.length = ps.length)
    (body : ∀ (X : Cx) (E : XK), Hs X.nox k → X.K = K → X.mg = mg → X.prog = P → X.w = w → X.calm = true → Takes X (fun cls d _ H => E cls d H) → X.env.scope = defScope st → X.N = N → ∀ vs H Q, sp vs H Q E → ∃ t, PSs X (defBody st) t ∧ t { nx := fun _ H' => Q .non H', rt := Q } (L2.start N vs) H) : ∃ fd, Binds K fd ps [] ∧ (∀ base, FnOk P w K mg base (L2.CX P w) (k + 1) (He.ma K (WC K) m) fd ps sp) ∧ FdAt K (He.ma K (WC K) m) fd := by
  obtain ⟨fd, F⟩ := T.d.defs hd
  refine ⟨fd, F.bindsN hb, fun base => F.ok S len fun cdv A outer s H vs Q E hr hsp => ?_, FunD_at F⟩
  exact body (cxOf (L2.CX P w) P w K mg base N q (defScope st) (He.fAd K ("Walker", some m)) cdv A outer s H E) E ⟨T, hr, rfl, S.nd, rfl⟩ rfl rfl rfl rfl rfl (takes_of rfl rfl rfl rfl) rfl rfl vs H Q hsp
section
variable {P : Program} {w : World} {K : PySem.W.Frag} {mg : Str → Option Value}
theorem turn_bar (T : Tx K mg) : ∃ fd, Binds K fd ["self", "row"] [] ∧ (∀ base, FnOk P w K mg base (L2.CX P w) 5 (He.ma K (WC K) "turn") fd ["self", "row"] (SpBar K)) ∧ FdAt K (He.ma K (WC K) "turn") fd := by
  refine Meth.mkX (N := (["self", "row"] : List Str) ++ ([] : List Str)) (m := "turn") (q := "Walker.turn") (st := inClass (top 97) 1) T (List.mem_of_getElem? (i := 69) rfl) sc_Wturn (fun _ _ _ _ _ _ us hl => match us, hl with | [_, _], _ => rfl) (len_bar K) fun X E Ay hK _ _ _ hcalm tk hs hN vs H Q hsp => ?_
  obtain ⟨x, vr, pl, h, hall, key, n, d, rfl, wk, rr, ok, hk, hdd, hb, q⟩ := hsp
  have ok0 : NvOk X.nox H (L2.start ((["self", "row"] : List Str) ++ ([] : List Str)) [V.ref x, vr]) (nvS ["self", "row"] [.v (.ref x), .d (.tuple [deedD d])] []) := nvok_start (X := X.nox) hs hN (.cons rfl (.cons rr .nil)) rfl (by decide +kernel)
  obtain ⟨dx, vh, vb, vs, vk, past, kept, h1, h2, h3, h4, h5, h6, h7⟩ := wk
  have gB : X.mg "Barred" = some (.ref (BC X.K)) := Ay.t.glo (by decide +kernel)
  have hs : X.nox.env.scope = defScope (inClass (top 97) 1) := hs
  subst hK
  have ht : (!isN (barD (bar h hall key d))) = true := by
    rcases bar_tup h hall key d with e | ⟨y, z, e⟩
    · rw [e] at hb
      cases hb
    · rw [e]
      rfl
  refine ⟨_, pss_cons (ps_if (PT.nox pt_w) (pss_one (ps_raise hcalm tk (pmk_none PySem.F.excBase_ValueError Ay.t.exc.1 gB Ay.t.exc.2.1 (raises_own Ay.t.exc.2.2.1 Ay.t.exc.2.2.2) (gl_of (X := X) hs (by decide +kernel)) (by decide +kernel)))) pss_nil) (PSs.nox pb_w), ?_⟩
  refine (et_isnt (ed_call Ay hs (ea_cons (ed_fld Ay (ev_var .here hs (by decide +kernel)) h1 (look_house ..) h2) (ea_cons (ed_fld Ay (ev_var .here hs (by decide +kernel)) h1 (look_here ..) h3) (ea_cons (ed_var (.next .here) hs (by decide +kernel)) ea_nil))) (R_bar_at.mk h hall key d ok hk hdd)) ed_non).run _ H (Ex.refl _) ok0 _ fun H2 e2 => ?_
  rw [if_pos ht]
  exact q H2 e2
theorem play_bar (T : Tx K mg) : ∃ fd, Binds K fd ["self", "row"] [] ∧ (∀ base, FnOk P w K mg base (L2.CX P w) 6 (He.ma K (WC K) "play") fd ["self", "row"] (SpBar K)) ∧ FdAt K (He.ma K (WC K) "play") fd := by
  refine Meth.mkX (N := (["self", "row"] : List Str) ++ ([] : List Str)) (m := "play") (q := "Walker.play") (st := inClass (top 97) 6) T (List.mem_of_getElem? (i := 70) rfl) sc_Wplay (fun _ _ _ _ _ _ us hl => match us, hl with | [_, _], _ => rfl) (len_bar K) fun X E Ay hK hmg hP hw hcalm tk hs hN vs H Q hsp => ?_
  obtain ⟨x, vr, pl, h, hall, key, n, d, rfl, wk, rr, ok, hk, hdd, hb, q⟩ := hsp
  have ok0 : NvOk X.nox H (L2.start ((["self", "row"] : List Str) ++ ([] : List Str)) [V.ref x, vr]) (nvS ["self", "row"] [.v (.ref x), .d (.tuple [deedD d])] []) := nvok_start (X := X.nox) hs hN (.cons rfl (.cons rr .nil)) rfl (by decide +kernel)
  obtain ⟨dx, vh, vb, vs, vk, past, kept, h1, h2, h3⟩ := id wk
  have hs : X.nox.env.scope = defScope (inClass (top 97) 6) := hs
  subst hK hmg hP hw
  obtain ⟨fd, b1, F1, _⟩ := turn_bar (P := X.prog) (w := X.w) T
  refine ⟨_, pss_cons (ps_expr (PE.nox pe_w) (by rfl)) (pss_cons (ps_expr (pe_meth (CX := L2.CX X.prog X.w) (E := E) (sp := SpBar X.K) (PE.nox pe_w) T.cls (T.meth (g := "turn") (by decide +kernel)) (F1 X.base) (Ay.room.mono (by decide)) b1 .nil (passes_call tk fun _ _ _ _ z => z) (pa_cons (PE.nox pe_w) pa_nil)) (by rfl)) pss_nil), ?_⟩
  refine (ed_call Ay hs (ea_cons (ed_fld Ay (ev_var .here hs (by decide +kernel)) h1 (look_house ..) h2) (ea_cons (ed_var (.next .here) hs (by decide +kernel)) ea_nil)) (R_need_row.mk h d hdd)).run _ H (Ex.refl _) ok0 _ fun v H2 e2 _ => ?_
  refine (ev_var (v := .ref x) .here hs (by decide +kernel)).run _ H2 (Ex.refl _) (ok0.mono e2.t) _ fun H3 e3 => ?_
  have w3 := (wk.ex e2).ex e3
  obtain ⟨dx, vh, vb, vs, vk, past, kept, g1, _⟩ := id w3
  refine ⟨x, dx, _, rfl, g1, look_none _ _ _ _ _ (by decide +kernel), ?_⟩
  refine (ed_var (d := .tuple [deedD d]) (.next .here) hs (by decide +kernel)).run _ H3 (Ex.refl _) ((ok0.mono e2.t).mono e3.t) _ fun v4 H4 e4 r4 => ?_
  exact ⟨x, v4, pl, h, hall, key, n, d, rfl, w3.ex e4, r4, ok, hk, hdd, hb, fun H' e5 => q H' (((e2.trans e3).trans e4).trans e5)⟩
theorem play_do (T : Tx K mg) : ∃ fd, Binds K fd ["self", "row"] [] ∧ ∀ base, FnOk P w K mg base (L2.CX P w) 6 (He.ma K (WC K) "play") fd ["self", "row"] (SpDo K) := by
  obtain ⟨fd, b, F1, a1⟩ := (inferInstance : HasMeth "play" 6 ["self", "row"] SpTurn).meth P w K mg T
  obtain ⟨fd2, _, F2, a2⟩ := play_bar (P := P) (w := w) T
  obtain rfl := a1.one a2
  exact ⟨fd, b, fun base => do_of (F1 base) (F2 base)⟩
end
end WK
/-! WKHot -/
set_option Elab.async false
set_option linter.all false
set_option maxRecDepth 100000
set_option maxHeartbeats 1000000
/-! Defs that are handed the caught exception. -/
namespace WK
open PySem PySem.Spec PyProof.Rows L2
/-- what such a def promises: p the exception, pinned -/
structure FnP (P : Program) (w : World) (K : PySem.W.Frag) (mg : Str → Option Value) (base : Heap) (k : Nat) (f : Addr) (fd : FuncData) (ps : List Str) (sp : Addr × Obj → Sp) : Prop where
  len : ∀ p vs H Q E, sp p vs H Q E → vs.length = ps.length
  run : ∀ (p : Addr × Obj) (A : Around) (outer : List Env) (s : Shared) (H : Hp) (args : Args) (us : List Value) (vs : List V) (Q : VK) (E : XK), L2H.RoomH k A → L2H.PinOk outer H s p → Env0 P w K mg base A outer s H → BindsTo s fd args (ps.zip us) → Vals vs us → sp p vs H Q E →
    codeAny (model P w) A (.call (.ref f) args) (CR CX0 outer P w H s Q E) s
section
variable {P : Program} {w : World} {K : PySem.W.Frag} {mg : Str → Option Value} {base : Heap}
theorem fnP_of {k : Nat} {f : Addr} {nm qual : Str} {params : Arguments} {body : List Stmt} {scope : Scope} {dV kV doc pm cdv ct oc : Value} {an od : Option Addr} {osl : Array (Option Value)} {N ps : List Str} {sp : Addr × Obj → Sp}
    (lk : K.lookup f = some ⟨oc, od, .func (PySem.W.fnOf nm qual params body scope dV kV doc pm an cdv ct), osl⟩) (hc : PySem.W.codeIn K cdv qual = true) (S : FnScope N ps scope) (len : ∀ p vs H Q E, sp p vs H Q E → vs.length = ps.length)
    (go : ∀ (p : Addr × Obj) (A : Around) (outer : List Env) (s : Shared) (H : Hp) (vs : List V) (Q : VK) (E : XK), L2H.RoomH k (A.deeper (envOfC qual scope s.heap.objs.size f cdv)) → sp p vs H Q E →
      ∃ t, PSs (L2H.cxH CX0 P w K mg base N qual scope f cdv A outer s H E p) body t ∧ t { nx := fun _ H' => Q .non H', rt := Q } (L2.start N vs) H) :
    FnP P w K mg base (k + 1) f (PySem.W.fnOf nm qual params body scope dV kV doc pm an cdv ct) ps sp := ⟨len, fun p A outer s H args us vs Q E room pin e0 bd rv hsp => by
  have kx : K.In s.heap := e0.mod.kin.keeps fun b o z => (e0.bs b o z).1
  have kinds : ∀ y ∈ ps.zip us, scope.names.lookup y.1 = some .local ∨ (scope.names.lookup y.1 = some .cell ∧ ((cellsFrom (s.heap.objs.size + 1) scope.names []).lookup y.1).isSome = true) := fun ⟨n, v⟩ hy => (S.par n (List.of_mem_zip hy).1).imp id fun z => ⟨z, PySem.W.cellsFrom_some _ _ _ (.inl z)⟩
  refine codeAny_call_function room.depth (kx _ _ lk) rfl S.co S.gen rfl (PySem.W.codeRec_of kx hc) (bd _ _ _ _ (wpAny_newFunctionEnv_cells S.kind kinds fun env ee s1 x => ?_))
  subst ee
  obtain ⟨t, h1, h2⟩ := go p A outer s H vs Q E (room.deeper _) hsp
  refine ⟨(e0.mod.nolimit.keeps fun b o z => (e0.bs b o z).1).keeps x.toInCall.keep, codeAny_func (wpAny_mono (h1.run [] s1 _ H _ (L2H.inv_startH S pin e0 (len _ _ _ _ _ hsp) rv x) h2) (fun fl s' q => ?_) fun _ _ z => z)⟩
  cases fl with
  | next =>
    obtain ⟨σ', H', J, z⟩ := q
    exact ⟨.non, H', J.os, J.bare, J.base, J.hok, rfl, z⟩
  | ret u =>
    obtain ⟨v, σ', H', J, rr, z⟩ := q
    exact ⟨v, H', J.os, J.bare, J.base, J.hok, rr, z⟩
  | brk =>
    obtain ⟨_, _, _, z⟩ := q
    exact z.elim
  | cont =>
    obtain ⟨_, _, _, z⟩ := q
    exact z.elim⟩
end
/-- its call, where the exception is pinned -/
theorem pe_calP {X : Cx} {k : Nat} {f : Addr} {fd : FuncData} {ps : List Str} {sp : Addr × Obj → Sp} {x : Str} {p : Addr × Obj} {q pos : Pos} {e : Expr} {es : List Expr} {t : TA} (F : FnP X.prog X.w X.K X.mg X.base k f fd ps sp) (room : L2H.RoomH k X.A) (hp : p ∈ X.pn) (hg : Gl X x) (hm : X.mg x = some (.ref f)) (hk : PySem.W.keepIn X.K (.ref f) = true)
    (hb : Binds X.K fd ps []) (ha : PA X (e :: es) t) (hdb : (x == ("__debug__" : Str)) = false) (he : starEach (e :: es) X.env = (false, eval e X.env) :: starEach es X.env) (hpl : (backTo pos (starEach es X.env)).any (·.1) = false) : PE X (.Call (.Name x q) (e :: es) [] pos) (fun σ H Q => t σ H fun vs H1 => sp p vs H1 Q E0) := ⟨fun pins s σ H Q I h => by
  refine wpAny_Call_Name_kw (ld_glob I hg hm (PySem.W.callWith_K (h₀ := X.base) I.ok.mod.kin hk (thn (ha.run pos pins s σ H _ I h) fun us s1 ⟨vs, H1, I1, r, z⟩ => ⟨I1.kIn, ?_⟩) he hpl) hdb)
  have hl : us.length = ps.length := by
    rw [← r.length]
    exact F.len _ _ _ _ _ z
  have bb := hb s1 us I1.kIn (by rw [List.append_nil]; exact hl)
  rw [List.append_nil] at bb
  have pp := I1.pin p (List.mem_append_left _ hp)
  refine wpAny_call (codeAny_mono (F.run p X.A X.stack s1 H1 ⟨us, []⟩ us vs Q E0 room ⟨pp.1, pp.2.1, fun w => (List.mem_cons.mp (I1.stkSub p.1 w)).elim pp.2.2.1 pp.2.2.2.1, pp.2.2.2.2⟩ I1.env0 bb r z) fun res s' hq => ?_)
  cases res with
  | error _ => exact hq.elim
  | ok fl =>
    cases fl with
    | ret u => exact I1.after hq
    | next => exact hq.elim
    | brk => exact hq.elim
    | cont => exact hq.elim⟩
/-- isinstance of the pinned exception -/
theorem call_isP {X : Cx} {p : Addr × Obj} {D : Addr} (C : ExcC X.K D) (hp : p ∈ X.pn) (hz : Zc (.ref D) none p.2) (hf : ∃ vs, p.2.data = .fields vs) : CallR X (.builtin "isinstance") (rIsE X.K D p.1) := by
  rintro pins s σ H xs us Q I r ⟨c, cv, b, rfl, hcv, e, q⟩
  cases r with
  | cons rx rr =>
  cases rr with
  | cons rt rr =>
  cases rr
  cases rx
  obtain rfl := hcv _ rt
  have pp := (I.pin p (List.mem_append_left _ hp)).1
  obtain ⟨a, oc, od, oda, osl⟩ := p
  obtain ⟨vs, hv⟩ := hf
  obtain ⟨h1, h2⟩ := hz
  simp only at h1 h2 hv
  subst h1 h2 hv
  exact PySem.W.kia_one (PySem.W.handS_kitx_exc C.hg C.hk C.hs C.hd C.ha C.hn C.ht C.hm) I.kIn (show PySem.W.InstAt s.heap a _ D none from ⟨pp, rfl, rfl, trivial⟩) e (fun z => nomatch z) fun tk => ⟨.bl b, H, I.kept (t' := tk) fun _ _ z => z, rfl, q⟩
end WK
/-! WKWord -/
set_option Elab.async false
set_option linter.all false
set_option maxRecDepth 100000
set_option maxHeartbeats 1000000
/-! The word of a refusal. -/
namespace L2
open PySem PySem.Spec PyProof.Rows
/-- how often a flat thing stands in a list of flat things -/
def rCnt (K : PySem.W.Frag) : V → List V → Hp → VK → Prop := fun x xs H Q => ∃ (a : Addr) (ys : List V) (y : V), x = V.ref a ∧ xs = [y] ∧ SqL K H a ys ∧ flatV y = true ∧ ys.all flatV = true ∧ Q (.int ((ys.countP fun z => eqV z y : Nat) : Int)) H
theorem cnt_eq {y : V} : ∀ {vs : List V} {us : List Value}, Vals vs us → vs.all flatV = true → us.countP (eqU y) = vs.countP fun z => eqV z y
  | [], [], .nil, _ => rfl
  | v :: vs, u :: us, .cons r rr, h => by
    obtain ⟨h1, h2⟩ := Bool.and_eq_true_iff.mp (show (flatV v && vs.all flatV) = true from h)
    rw [List.countP_cons, List.countP_cons, cnt_eq rr h2, eqU_of r h1]
theorem mt_cnt {X : Cx} : MtR X "list.count" (rCnt X.K) := by
  rintro pins s σ H x xs v us Q I rx rxs ⟨a, ys, y, rfl, rfl, hs, fy, fys, q⟩
  cases rx
  obtain ⟨uy, rfl, ry⟩ := rxs.one
  obtain ⟨its, rv, ⟨⟨cls, dd, data, sl⟩, n, ho, hc, hdn, hd⟩, hlen⟩ := I.list hs
  simp only at hc hd
  subst hc hd
  have ec : its.toArray.toList.countP (eqU y) = ys.countP fun z => eqV z y := cnt_eq rv fys
  refine call_meets PySem.F.slot_list_count ⟨_, ho, rfl⟩ PySem.F.entry_list_count (PySem.F.args_list_count_2 _ _) (SeqAt.list_countAt a its.toArray n dd sl uy (eqU y)) ⟨ho, fun u' hu' => mem_eqAt ry fy rv fys u' (by simpa using hu'), .int ((ys.countP fun z => eqV z y : Nat) : Int), H, I.tok _, ⟨s.toks, ?_⟩, q⟩
  show Value.int ((its.toArray.toList.countP (eqU y) : Nat) : Int) s.toks = _
  rw [ec]
end L2
namespace WK
open PySem PySem.Spec PyProof.Rows L2
structure CalP (P : Program) (w : World) (K : PySem.W.Frag) (mg : Str → Option Value) (x : Str) (k : Nat) (ps : List Str) (sp : Addr × Obj → Sp) : Prop where
  ex : ∃ f fd, mg x = some (.ref f) ∧ PySem.W.keepIn K (.ref f) = true ∧ Binds K fd ps [] ∧ ∀ base, FnP P w K mg base k f fd ps sp
/-- where the caught exception is pinned -/
structure Ph (X : Cx) (p : Addr × Obj) (k : Nat) : Prop where
  t : Tx X.K X.mg
  room : L2H.RoomH k X.A
  nd : X.N.Nodup
  pin : p ∈ X.pn
/-- it is a Barred -/
structure ExP (K : PySem.W.Frag) (p : Addr × Obj) : Prop where
  cls : Zc (.ref (BC K)) none p.2
  fld : ∃ vs, p.2.data = .fields vs
theorem CalP.mk' {P : Program} {w : World} {K : PySem.W.Frag} {mg : Str → Option Value} {x : Str} {i k : Nat} {N ps : List Str} {sp : Addr × Obj → Sp} (T : Tx K mg) (hd : dG x i ∈ fn) (hg : faB (isGlo x) = true) (S : FnScope N ps (defScope (top i)))
    (hb : ∀ (kV doc pm : Value) (an : Option Addr) (cdv ct : Value) (us : List Value), us.length = ps.length → bindArgs (PySem.W.fnOf x x (defArgs (top i)) (defBody (top i)) (defScope (top i)) .none kV doc pm an cdv ct) ⟨us, []⟩ = pure (ps.zip us))
    (len : ∀ p vs H Q E, sp p vs H Q E → vs.length = ps.length)
    (body : ∀ (X : Cx) (p : Addr × Obj), Ph X p k → X.K = K → X.env.scope = defScope (top i) → X.N = N → (∀ y, X.fn y = true) → ∀ vs H Q E, sp p vs H Q E → wB X (defBody (top i)) { nx := fun _ H' => Q .non H', rt := Q } (L2.start N vs) H) : CalP P w K mg x (k + 1) ps sp := by
  obtain ⟨fd, F⟩ := T.d.defs hd
  have hbn := F.bindsN hb
  have hgl := T.glo hg
  have hkp := F.kp
  obtain ⟨oc, od, dV, kV, doc, pm, an, cdv, ct, osl, rfl, lk, hcd, _, _⟩ := F.ex
  refine ⟨_, _, hgl, hkp, hbn, fun base => fnP_of lk hcd S len fun p A outer s H vs Q E hr hsp => ?_⟩
  have := body ((L2H.cxH CX0 P w K mg base N x (defScope (top i)) (He.fAd K (x, none)) cdv A outer s H E p).nox) p ⟨T, hr, S.nd, List.mem_singleton.mpr rfl⟩ rfl rfl rfl (fun _ => rfl) vs H Q E hsp
  exact ⟨_, PSs.nox pb_w, this⟩
def kits : List (Str × Bool) := [("NoTeeth", false), ("NoKey", false), ("NoBox", false), ("NoBoxes", false), ("NoKeys", false), ("NoHouse", false), ("NoStand", false), ("NoDeed", false), ("Barred", true), ("NoRow", false), ("NoHall", false), ("NotLaid", false), ("NotRound", false), ("NoTimes", false), ("NoGoal", false), ("NoGoals", false), ("NoCoins", false), ("NotPlain", false), ("NoRecord", false), ("NothingDone", false), ("NoText", false), ("NoLine", false)]
section
variable {K : PySem.W.Frag} {mg : Str → Option Value}
theorem Tx.kit (T : Tx K mg) {c : Str × Bool} (hc : c ∈ kits) : PySem.W.kitOne K (.ref (BC K)) (.ref (He.ga K c.1)) = some c.2 := by
  have h := T.ex
  unfold exB at h
  simp only [Bool.and_eq_true] at h
  obtain ⟨_, _, _, _, _, _, _, _, _, h⟩ := h
  exact of_decide_eq_true (List.all_eq_true.mp h c hc)
theorem Tx.kitV (T : Tx K mg) : PySem.W.kitOne K (.ref (BC K)) (.type "ValueError") = some true := by
  have h := T.ex
  unfold exB at h
  simp only [Bool.and_eq_true] at h
  obtain ⟨_, _, _, _, _, _, _, _, h, _⟩ := h
  exact of_decide_eq_true h
theorem Tx.excC (T : Tx K mg) : ExcC K (BC K) := by
  have h := T.ex
  unfold exB at h
  simp only [Bool.and_eq_true] at h
  obtain ⟨a1, a2, a3, a4, a5, a6, a7, a8, _⟩ := h
  exact ⟨He.eqO_ok a1, He.eqO_ok a2, of_decide_eq_true a3, a4, He.eqO_ok a5, He.eqO_ok a6, of_decide_eq_true a7, of_decide_eq_true a8⟩
end
section
variable {X : Cx} {k k' : Nat} {p : Addr × Obj} {a e nm c : Expr} {es : List Expr} {env : Nv} {H : Hp} {D : Ends} {ds : List PyData} {d : PyData} {pos q q2 ap cp : Pos} {sc : Scope} {rest : List Stmt}
theorem ed_isB {n : Str} {t : Bool} (B : Ph X p k) (xp : ExP X.K p) (hs : X.env.scope = sc) (hv : EvV X a env H (.ref p.1)) (hc : (n, t) ∈ kits) (hgn : faB (isGlo n) = true) (hg : glB sc "isinstance" = true) (hg2 : glB sc n = true) (hp : plainE a = true) : EvD X (.Call (.Name "isinstance" q) [a, .Name n q2] [] pos) env H (.bool t) := ⟨fun σ H1 e0 ok Q kk =>
  ⟨_, pe_callB (call_isP B.t.excC B.pin xp.cls xp.fld) (gl_of hs hg) (B.t.free (by decide +kernel)) boot_isinstance (pa_cons pe_w (pa_cons (pe_glob (v := .ref (He.ga X.K n)) (gl_of hs hg2) (B.t.glo hgn) rfl (gl_db hg2)) pa_nil) (star_of hp)) (by decide) (gl_db hg) (star_of hp) (plain_of rfl), hv.run σ H1 e0 ok _ fun H2 e2 => ⟨.ref (He.ga X.K n), .ref (He.ga X.K n), t, rfl, fun u z => z, B.t.kit hc, kk _ H2 e2 (.bl t)⟩⟩⟩
theorem ed_isV (B : Ph X p k) (xp : ExP X.K p) (hs : X.env.scope = sc) (hv : EvV X a env H (.ref p.1)) (hg : glB sc "isinstance" = true) (hg2 : glB sc "ValueError" = true) (hp : plainE a = true) : EvD X (.Call (.Name "isinstance" q) [a, .Name "ValueError" q2] [] pos) env H (.bool true) := ⟨fun σ H1 e0 ok Q kk =>
  ⟨_, pe_callB (call_isP B.t.excC B.pin xp.cls xp.fld) (gl_of hs hg) (B.t.free (by decide +kernel)) boot_isinstance (pa_cons pe_w (pa_cons (pe_bltn (v := .ty "ValueError") (u := .type "ValueError") (gl_of hs hg2) (B.t.free (by decide +kernel)) (by kernel_rfl) rfl (by decide) (gl_db hg2)) pa_nil) (star_of hp)) (by decide) (gl_db hg) (star_of hp) (plain_of rfl), hv.run σ H1 e0 ok _ fun H2 e2 => ⟨.ty "ValueError", .type "ValueError", true, rfl, fun u z => z, B.t.kitV, kk _ H2 e2 (.bl true)⟩⟩⟩
theorem gh_setL {i : Nat} {n : Str} {p' : Pos} {nv : Addr → Nv} (nd : X.N.Nodup) (h : EvL X e env H ds) (hp : ∀ a, Put env i n (.v (.ref a)) (nv a)) (hl : LocN X n) (q : ∀ a H1, H a = none → Ex H H1 → Lst H1 a ds → Go X rest (nv a) H1 D)
    (hs : swapsWith e (some (.Name n p')) pos.line X.env = pure false := by rfl) : Go X (.Assign [.Name n p'] e pos :: rest) env H D := ⟨fun σ H1 e0 ok =>
  ⟨_, pss_cons (ps_set nd (by rw [ok.names]; exact (hp 0).name.1) hl.loc pe_w hs hl.fn) pb_w, h.run σ H1 e0 ok _ fun v H2 hn e2 l => (q v H2 (e0.back hn) (e0.trans e2) l).run _ H2 (Ex.refl _) ((ok.mono e2.t).put (hp v) rfl hl.vis)⟩⟩
theorem go_beginH {b : List Stmt} {vs : List V} {ss : List Sl} {ps more : List Str} (hs : X.env.scope = sc) (hN : X.N = ps ++ more) (q : StA H vs ss) (hl : ps.length = ss.length) (hv : ps.all (visB sc) = true) (g : Go X b (nvS ps ss more) H D) : wB X b D (L2.start (ps ++ more) vs) H :=
  g.run _ H (Ex.refl _) (nvok_start hs hN q hl hv)
theorem cnt_rp {H3 : Hp} {v : V} {d : PyData} (r3 : Rp H3 v d) : ∀ {vs : List V} {ds : List PyData}, RpA H3 vs ds → ds.all flatD = true → (vs.countP fun z => eqV z v) = ds.countP fun z => PyData.eqv z d
  | _, _, .nil, _ => rfl
  | _, _, .cons q r, h => by
    obtain ⟨h1, h2⟩ := Bool.and_eq_true_iff.mp h
    rw [List.countP_cons, List.countP_cons, cnt_rp r3 r h2, eqV_of q r3 h1]
/-- xs.count(y) -/
theorem ed_count (ha : EvR X nm env H ds) (hb : EvD X e env H d) (fd : flatD d = true) (fs : ds.all flatD = true) (hp : plainE e = true := by rfl)
    (hbase : attributeBase nm "count" X.env (eval nm X.env) = eval nm X.env := by rfl) (hline : (ap.endLine == cp.line) = true := by rfl) : EvD X (.Call (.Attribute nm "count" ap) [e] [] cp) env H (.int ((ds.countP fun z => PyData.eqv z d : Nat) : Int)) := ⟨fun σ H1 e0 ok Q kk => by
  refine ⟨_, pe_bm PySem.F.plainAttrs_list PySem.F.slot_list_count PySem.F.type_list_count mt_cnt pe_w (pa_cons pe_w pa_nil (star_of hp)) hbase (by cases e <;> first
    | rfl
    | cases hp) hline (star_of hp) (plain_of rfl), ha.run σ H1 e0 ok _ fun l H2 e2 hl => ?_⟩
  obtain ⟨vs, h2, r2⟩ := hl
  refine ⟨.inl ⟨rfl, vs, SqL.of h2⟩, hb.run σ H2 (e0.trans e2) (ok.mono e2.t) _ fun v H3 e3 r3 => ?_⟩
  have r2 := r2.mono e3.t
  have fl := (inV_of r3 r2 fs).2
  refine ⟨l, vs, v, rfl, rfl, SqL.of (e3 _ _ h2), by rw [flat_of r3]; exact fd, fl, kk _ H3 (e2.trans e3) ?_⟩
  rw [cnt_rp r3 r2 fs]
  exact .int _⟩
/-- xs.index(y), y the j-th -/
theorem ed_index {j : Nat} {z : PyData} (ha : EvR X nm env H ds) (hb : EvD X e env H d) (fd : flatD d = true) (fs : ds.all flatD = true) (hz : ds[j]? = some z) (hzj : PyData.eqv z d = true) (hno : ∀ (m : Nat) (z' : PyData), m < j → ds[m]? = some z' → PyData.eqv z' d = false) (hp : plainE e = true := by rfl)
    (hbase : attributeBase nm "index" X.env (eval nm X.env) = eval nm X.env := by rfl) (hline : (ap.endLine == cp.line) = true := by rfl) : EvD X (.Call (.Attribute nm "index" ap) [e] [] cp) env H (.int (j : Int)) := ⟨fun σ H1 e0 ok Q kk => by
  refine ⟨_, pe_bm PySem.F.plainAttrs_list PySem.F.slot_list_index PySem.F.type_list_index mt_index pe_w (pa_cons pe_w pa_nil (star_of hp)) hbase (by cases e <;> first
    | rfl
    | cases hp) hline (star_of hp) (plain_of rfl), ha.run σ H1 e0 ok _ fun l H2 e2 hl => ?_⟩
  obtain ⟨vs, h2, r2⟩ := hl
  refine ⟨.inl ⟨rfl, vs, SqL.of h2⟩, hb.run σ H2 (e0.trans e2) (ok.mono e2.t) _ fun v H3 e3 r3 => ?_⟩
  have r2 := r2.mono e3.t
  obtain ⟨w, hw, rw_⟩ := r2.get hz
  have ff : ∀ (m : Nat) (x : PyData), ds[m]? = some x → flatD x = true := fun m x hx => List.all_eq_true.mp fs x (List.mem_of_getElem? hx)
  refine ⟨l, vs, v, j, w, rfl, rfl, SqL.of (e3 _ _ h2), by rw [flat_of r3]; exact fd, (inV_of r3 r2 fs).2, hw, by rw [eqV_of rw_ r3 (ff j z hz)]; exact hzj, fun m z' hm hz' => ?_, kk _ H3 (e2.trans e3) (.int _)⟩
  obtain ⟨x, hx, rx⟩ := r2.at hz'
  rw [eqV_of rx r3 (ff m x hx)]
  exact hno m x hm hx⟩
/-- [x] * n -/
theorem el_repL {i : Int} (ha : EvL X a env H [d]) (hb : EvD X e env H (.int i)) (h0 : 0 ≤ i ∧ i ≤ 1000) : EvL X (.BinOp a .Mult e pos) env H (List.replicate i.toNat d) := ⟨fun σ H1 e0 ok Q kk => by
  refine ⟨_, pe_op op_rep pe_w pe_w, ha.run σ H1 e0 ok _ fun l H2 hn e2 hl => hb.run σ H2 (e0.trans e2) (ok.mono e2.t) _ fun v H3 e3 r3 => ?_⟩
  cases r3
  obtain ⟨vs, h2, r2⟩ := hl
  cases r2 with
  | @cons w _ _ _ r rr =>
  cases rr
  refine ⟨l, i, [w], rfl, rfl, e3 _ _ h2, by omega, by omega, by
    rw [sizeLine_eq]
    simp only [List.length_cons, List.length_nil]
    omega, fun pp hp => kk pp _ ((e2.trans e3).back hp) ((e2.trans e3).trans (Ex.new hp)) ⟨_, upd_same, ?_⟩⟩
  have r4 := (r.mono e3.t).mono (Ex.new (o := .lst (List.replicate i.toNat [w]).flatten) hp).t
  have key : ∀ n : Nat, RpA (upd H3 pp (.lst (List.replicate i.toNat [w]).flatten)) (List.replicate n [w]).flatten (List.replicate n d) := by
    intro n
    induction n with
    | zero => exact .nil
    | succ n ih => exact .cons r4 ih
  exact key _⟩
end
def marksD : List PyData := [.bool false, .bool false, .bool false, .bool true, .bool false, .bool false, .bool false, .bool false, .bool false, .bool false, .bool false, .bool false, .bool false, .bool false, .bool false, .bool false, .bool false, .bool false, .bool false, .bool false, .bool false, .bool false]
def SpMarks (K : PySem.W.Frag) (p : Addr × Obj) : Sp := fun vs H Q _ => vs = [V.ref p.1] ∧ ExP K p ∧ ∀ l H', H l = none → Ex H H' → Lst H' l marksD → Q (.ref l) H'
theorem len_marks (K : PySem.W.Frag) : ∀ p vs H Q E, SpMarks K p vs H Q E → vs.length = (["_law_e"] : List Str).length := fun p vs H Q E ⟨e, _⟩ => by rw [e]; rfl
theorem sc_marks : FnScope ((["_law_e"] : List Str) ++ (["_law_some"] : List Str)) ["_law_e"] (defScope (top 103)) := fnScope_by (by decide +kernel)
theorem cal_marks {P : Program} {w : World} {K : PySem.W.Frag} {mg : Str → Option Value} (T : Tx K mg) : CalP P w K mg "_law_marks_of" 1 ["_law_e"] (SpMarks K) := by
  refine CalP.mk' T (i := 103) (N := (["_law_e"] : List Str) ++ (["_law_some"] : List Str)) (List.mem_of_getElem? (i := 52) rfl) (by decide +kernel) sc_marks (fun _ _ _ _ _ _ us hl => match us, hl with | [_], _ => rfl) (len_marks K) fun X p B hK hs hN hf vs H Q E h => ?_
  obtain ⟨rfl, xp, q⟩ := h
  refine go_beginH (ss := [.v (.ref p.1)]) hs hN (.cons rfl .nil) rfl (by decide +kernel) ?_
  subst hK
  simp only [nvS, unM]
  refine gh_setL B.nd (el_lst (ea_cons (ed_isB (n := "NoHouse") (t := false) B xp hs (ev_var .here hs (by decide +kernel)) (by decide +kernel) (by decide +kernel) (by decide +kernel) (by decide +kernel) rfl) (ea_cons (ed_isB (n := "NoStand") (t := false) B xp hs (ev_var .here hs (by decide +kernel)) (by decide +kernel) (by decide +kernel) (by decide +kernel) (by decide +kernel) rfl) (ea_cons (ed_isB (n := "NoDeed") (t := false) B xp hs (ev_var .here hs (by decide +kernel)) (by decide +kernel) (by decide +kernel) (by decide +kernel) (by decide +kernel) rfl) (ea_cons (ed_isB (n := "Barred") (t := true) B xp hs (ev_var .here hs (by decide +kernel)) (by decide +kernel) (by decide +kernel) (by decide +kernel) (by decide +kernel) rfl) ea_nil))))) (fun _ => .next .here) (locN hf hs (by decide +kernel)) fun l1 H1 n1 x1 L1 => ?_
  refine gh_setL B.nd (el_cat (EvV.r (ev_var (.next .here) hs (by decide +kernel)) L1) (EvL.r (el_lst (ea_cons (ed_isB (n := "NoRow") (t := false) B xp hs (ev_var .here hs (by decide +kernel)) (by decide +kernel) (by decide +kernel) (by decide +kernel) (by decide +kernel) rfl) (ea_cons (ed_isB (n := "NothingDone") (t := false) B xp hs (ev_var .here hs (by decide +kernel)) (by decide +kernel) (by decide +kernel) (by decide +kernel) (by decide +kernel) rfl) (ea_cons (ed_isB (n := "NoTeeth") (t := false) B xp hs (ev_var .here hs (by decide +kernel)) (by decide +kernel) (by decide +kernel) (by decide +kernel) (by decide +kernel) rfl) (ea_cons (ed_isB (n := "NoKey") (t := false) B xp hs (ev_var .here hs (by decide +kernel)) (by decide +kernel) (by decide +kernel) (by decide +kernel) (by decide +kernel) rfl) ea_nil)))))) (by decide)) (fun _ => .next .here) (locN hf hs (by decide +kernel)) fun l2 H2 n2 x2 L2 => ?_
  refine gh_setL B.nd (el_cat (EvV.r (ev_var (.next .here) hs (by decide +kernel)) L2) (EvL.r (el_lst (ea_cons (ed_isB (n := "NoBox") (t := false) B xp hs (ev_var .here hs (by decide +kernel)) (by decide +kernel) (by decide +kernel) (by decide +kernel) (by decide +kernel) rfl) (ea_cons (ed_isB (n := "NoText") (t := false) B xp hs (ev_var .here hs (by decide +kernel)) (by decide +kernel) (by decide +kernel) (by decide +kernel) (by decide +kernel) rfl) (ea_cons (ed_isB (n := "NoLine") (t := false) B xp hs (ev_var .here hs (by decide +kernel)) (by decide +kernel) (by decide +kernel) (by decide +kernel) (by decide +kernel) rfl) (ea_cons (ed_isB (n := "NoGoal") (t := false) B xp hs (ev_var .here hs (by decide +kernel)) (by decide +kernel) (by decide +kernel) (by decide +kernel) (by decide +kernel) rfl) ea_nil)))))) (by decide)) (fun _ => .next .here) (locN hf hs (by decide +kernel)) fun l3 H3 n3 x3 L3 => ?_
  refine gh_setL B.nd (el_cat (EvV.r (ev_var (.next .here) hs (by decide +kernel)) L3) (EvL.r (el_lst (ea_cons (ed_isB (n := "NoBoxes") (t := false) B xp hs (ev_var .here hs (by decide +kernel)) (by decide +kernel) (by decide +kernel) (by decide +kernel) (by decide +kernel) rfl) (ea_cons (ed_isB (n := "NoKeys") (t := false) B xp hs (ev_var .here hs (by decide +kernel)) (by decide +kernel) (by decide +kernel) (by decide +kernel) (by decide +kernel) rfl) (ea_cons (ed_isB (n := "NoHall") (t := false) B xp hs (ev_var .here hs (by decide +kernel)) (by decide +kernel) (by decide +kernel) (by decide +kernel) (by decide +kernel) rfl) (ea_cons (ed_isB (n := "NotLaid") (t := false) B xp hs (ev_var .here hs (by decide +kernel)) (by decide +kernel) (by decide +kernel) (by decide +kernel) (by decide +kernel) rfl) ea_nil)))))) (by decide)) (fun _ => .next .here) (locN hf hs (by decide +kernel)) fun l4 H4 n4 x4 L4 => ?_
  refine gh_setL B.nd (el_cat (EvV.r (ev_var (.next .here) hs (by decide +kernel)) L4) (EvL.r (el_lst (ea_cons (ed_isB (n := "NotRound") (t := false) B xp hs (ev_var .here hs (by decide +kernel)) (by decide +kernel) (by decide +kernel) (by decide +kernel) (by decide +kernel) rfl) (ea_cons (ed_isB (n := "NoTimes") (t := false) B xp hs (ev_var .here hs (by decide +kernel)) (by decide +kernel) (by decide +kernel) (by decide +kernel) (by decide +kernel) rfl) (ea_cons (ed_isB (n := "NoGoals") (t := false) B xp hs (ev_var .here hs (by decide +kernel)) (by decide +kernel) (by decide +kernel) (by decide +kernel) (by decide +kernel) rfl) (ea_cons (ed_isB (n := "NoCoins") (t := false) B xp hs (ev_var .here hs (by decide +kernel)) (by decide +kernel) (by decide +kernel) (by decide +kernel) (by decide +kernel) rfl) ea_nil)))))) (by decide)) (fun _ => .next .here) (locN hf hs (by decide +kernel)) fun l5 H5 n5 x5 L5 => ?_
  refine go_retL (el_cat (EvV.r (ev_var (.next .here) hs (by decide +kernel)) L5) (EvL.r (el_lst (ea_cons (ed_isB (n := "NotPlain") (t := false) B xp hs (ev_var .here hs (by decide +kernel)) (by decide +kernel) (by decide +kernel) (by decide +kernel) (by decide +kernel) rfl) (ea_cons (ed_isB (n := "NoRecord") (t := false) B xp hs (ev_var .here hs (by decide +kernel)) (by decide +kernel) (by decide +kernel) (by decide +kernel) (by decide +kernel) rfl) ea_nil)))) (by decide)) fun l6 H6 n6 x6 L6 => ?_
  exact q l6 H6 (((((x1.trans x2).trans x3).trans x4).trans x5).back n6) (((((x1.trans x2).trans x3).trans x4).trans x5).trans x6) L6
def SpWord (K : PySem.W.Frag) (p : Addr × Obj) : Sp := fun vs H Q _ => vs = [V.ref p.1] ∧ ExP K p ∧ ∀ v H', Ex H H' → Rp H' v (.tuple [.str "barred"]) → Q v H'
theorem len_word (K : PySem.W.Frag) : ∀ p vs H Q E, SpWord K p vs H Q E → vs.length = (["_law_e"] : List Str).length := fun p vs H Q E ⟨e, _⟩ => by rw [e]; rfl
theorem el_marks {X : Cx} {k : Nat} {p : Addr × Obj} {a : Expr} {env : Nv} {H : Hp} {pos q : Pos} {sc : Scope} (B : Ph X p k) (xp : ExP X.K p) (hs : X.env.scope = sc) (hv : EvV X a env H (.ref p.1)) (hg : glB sc "_law_marks_of" = true) (hk : 1 ≤ k) (hp : plainE a = true) : EvL X (.Call (.Name "_law_marks_of" q) [a] [] pos) env H marksD := ⟨fun σ H1 e0 ok Q kk => by
  obtain ⟨f, fd, h1, h2, h3, h4⟩ := (cal_marks (P := X.prog) (w := X.w) B.t).ex
  refine ⟨_, pe_calP (h4 X.base) (B.room.mono hk) B.pin (gl_of hs hg) h1 h2 h3 (pa_cons pe_w pa_nil (star_of hp)) (gl_db hg) (star_of hp) (plain_of rfl), hv.run σ H1 e0 ok _ fun H2 e2 => ?_⟩
  exact ⟨rfl, xp, fun l H' hn e3 hl => kk l H' (e2.back hn) (e2.trans e3) hl⟩⟩
theorem sc_word : FnScope ((["_law_e"] : List Str) ++ (["_law_marks", "_law_words"] : List Str)) ["_law_e"] (defScope (top 104)) := fnScope_by (by decide +kernel)
theorem cal_word {P : Program} {w : World} {K : PySem.W.Frag} {mg : Str → Option Value} (T : Tx K mg) : CalP P w K mg "_law_word" 2 ["_law_e"] (SpWord K) := by
  refine CalP.mk' T (i := 104) (N := (["_law_e"] : List Str) ++ (["_law_marks", "_law_words"] : List Str)) (List.mem_of_getElem? (i := 53) rfl) (by decide +kernel) sc_word (fun _ _ _ _ _ _ us hl => match us, hl with | [_], _ => rfl) (len_word K) fun X p B hK hs hN hf vs H Q E h => ?_
  obtain ⟨rfl, xp, q⟩ := h
  refine go_beginH (ss := [.v (.ref p.1)]) hs hN (.cons rfl .nil) rfl (by decide +kernel) ?_
  subst hK
  simp only [nvS, unM]
  have hu : X.A.units + 64 < cLine := by have := B.room.un; omega
  refine gh_setL B.nd (el_marks B xp hs (ev_var .here hs (by decide +kernel)) (by decide +kernel) (by decide) rfl) (fun _ => .next .here) (locN hf hs (by decide +kernel)) fun l1 H1 n1 x1 L1 => ?_
  refine go_when (et_bool (ew_or (et_cmpR (op_neD hu) (ed_count (EvV.r (ev_var (.next .here) hs (by decide +kernel)) L1) ed_bl rfl (by decide)) ed_int (cNe rfl rfl) (nomark _)) fun _ => ew_or1 (et_not (et_val (ed_isV B xp hs (ev_var .here hs (by decide +kernel)) (by decide +kernel) (by decide +kernel) rfl))))) (fun ht => by cases ht) fun _ => ?_
  refine gh_setL B.nd (el_lst (ea_cons ed_str (ea_cons ed_str (ea_cons ed_str (ea_cons ed_str (ea_cons ed_str (ea_cons ed_str (ea_cons ed_str (ea_cons ed_str (ea_cons ed_str (ea_cons ed_str (ea_cons ed_str (ea_cons ed_str ea_nil))))))))))))) (fun _ => .next (.next .here)) (locN hf hs (by decide +kernel)) fun l2 H2 n2 x2 L2 => ?_
  have L1 := L1.ex x2
  exact go_ret (ed_tup (ea_cons (ed_ixR (EvL.r (el_cat (EvV.r (ev_var (.next (.next .here)) hs (by decide +kernel)) L2) (EvL.r (el_repL (el_lst (ea_cons ed_str ea_nil)) ed_int (by decide))) (by decide))) (ed_index (j := 3) (EvV.r (ev_var (.next .here) hs (by decide +kernel)) L1) ed_bl rfl (by decide) rfl rfl (fun m z hm hz => by
    rcases (by omega : m = 0 ∨ m = 1 ∨ m = 2) with rfl | rfl | rfl <;> (cases hz; rfl))) rfl) ea_nil)) fun v H3 x3 r => q v H3 ((x1.trans x2).trans x3) r
end WK
/-! WKLam -/
set_option Elab.async false
set_option linter.all false
set_option maxRecDepth 100000
set_option maxHeartbeats 1000000
/-! _law_said and the lambda that it is handed. -/
namespace WK
open PySem PySem.Spec PyProof.Rows L2
/-- what _law_said makes of its lambda's reading -/
def TTsaid (K : PySem.W.Frag) : (XK → Hp → VK → Prop) → Hp → VK → Prop := fun tl H Q =>
  tl (fun cls d H' => cls = .ref (BC K) ∧ d = none ∧ ∀ v H'', Ex H' H'' → Rp H'' v (.tuple [.str "barred"]) → Q v H'') H fun v H1 => ([V.str "told", v] : List V).length ≤ sizeLine ∧ ∀ t, H1 t = none → Q (.ref t) (upd H1 t (.tup [V.str "told", v]))
theorem sc_said : FnScope (["_law_call", "_law_e"] : List Str) ["_law_call"] (defScope (top 105)) := fnScope_by (by decide +kernel)
theorem said_gives {X : Cx} {q : Str} {g : Addr} {cdg : Value} (T : Tx X.K X.mg) (room : Room 4 X.A) : LamX.GivesTo X (["_law_call", "_law_e"] : List Str) "_law_said" (defScope (top 105)) g cdg (defBody (top 105)) "_law_call" q (TTsaid X.K) := by
  intro f c' s H Q tl act hc h
  have gE : X.mg "WearError" = some (.ref (ZC X.K)) := T.glo (by decide +kernel)
  have gl1 : (defScope (top 105)).names.lookup ("WearError" : Str) = some .globalImplicit := by decide +kernel
  have gl2 : (defScope (top 105)).names.lookup ("_law_word" : Str) = some .globalImplicit := by decide +kernel
  have lo1 : (defScope (top 105)).names.lookup ("_law_e" : Str) = some .local := by decide +kernel
  obtain ⟨f2, fd2, c1, c2, c3, c4⟩ := (cal_word (P := X.prog) (w := X.w) T).ex
  refine ⟨_, pss_one (ps_try_as (i := 1) (n := "_law_e") (x := "WearError") (c := .ref (ZC X.K)) (Wout := fun _ _ _ _ => False)
    (tb := fun W D σ H => ∃ Ech : XK, (∀ cls d σ' H', Ech cls d H' → W cls d σ' H') ∧ σ[0]? = some (some (.ref f)) ∧ H c' = some (LamX.CodeO c' q) ∧ tl Ech H fun v H1 => ([V.str "told", v] : List V).length ≤ sizeLine ∧ ∀ t, H1 t = none → D.rt (.ref t) (upd H1 t (.tup [V.str "told", v])))
    (ts := fun a cls d D σ H => cls = .ref (BC X.K) ∧ d = none ∧ (1 < σ.length → σ[1]? = some (some (.ref a))) ∧ ∀ v H'', Ex H H'' → Rp H'' v (.tuple [.str "barred"]) → D.rt v H'')
    rfl rfl sc_said.nd rfl lo1 ⟨gl1, by decide +kernel, .inl gE⟩ LamX.takes0 (fun W pn xe tk _ => ⟨fun pins s' σ H' D I h' => ?_⟩) (fun a oe cls d pn hz hf => ⟨fun pins s' σ H' D I h' => ?_⟩)), ?_⟩
  · obtain ⟨Ech, hW, h1, h2, h3⟩ := h'
    exact (pss_one (ps_ret (pe_tup (pa_cons pe_str (pa_cons (act W pn xe Ech _ _ tk hW) pa_nil))))).run pins s' σ H' D I ⟨h1, h2, h3⟩
  · obtain ⟨e1, e2, e3, e4⟩ := h'
    subst e1 e2
    have e6 : σ.length = 2 := I.len
    have e3 := e3 (by omega)
    have r1 : Room 3 (X.A.deeper (envOfC "_law_said" (defScope (top 105)) s.heap.objs.size g cdg)) := room.deeper _
    have r2 : L2H.RoomH 2 ((cxOf C8.CX0 X.prog X.w X.K X.mg X.base (["_law_call", "_law_e"] : List Str) "_law_said" (defScope (top 105)) g cdg X.A X.stack s H C8.E0).nox.suite a ((a, oe) :: pn)).A := ⟨(L2H.roomH_of (r1.mono (show 2 ≤ 3 by decide))).dp, (L2H.roomH_of (r1.mono (show 2 ≤ 3 by decide))).un⟩
    refine (pss_one (ps_ret (pe_calP (X := (cxOf C8.CX0 X.prog X.w X.K X.mg X.base (["_law_call", "_law_e"] : List Str) "_law_said" (defScope (top 105)) g cdg X.A X.stack s H C8.E0).nox.suite a ((a, oe) :: pn)) (p := (a, oe)) (c4 X.base) r2 List.mem_cons_self gl2 c1 c2 c3 (pa_cons (pe_var (i := 1) (x := "_law_e") rfl (.inl lo1) (by decide +kernel) (by decide +kernel)) pa_nil) (by decide +kernel) (star_of rfl) (plain_of rfl)))).run pins s' σ H' D I ?_
    exact ⟨.ref a, e3, rfl, ⟨hz, hf⟩, fun v H'' e5 r => e4 v H'' e5 r⟩
  · exact ⟨_, fun cls d σ' H' ⟨e1, e2, e3⟩ => ⟨true, by rw [e1]; exact T.exm, fun _ a _ => ⟨e1, e2, fun hl => by rw [List.getElem?_set_self (by simpa using hl)], e3⟩, fun z => by cases z⟩, rfl, hc, h⟩
end WK
/-! WKLam2 -/
set_option Elab.async false
set_option linter.all false
set_option maxRecDepth 100000
set_option maxHeartbeats 1000000
/-! A walker asked to play, by a lambda. -/
namespace WK
open PySem PySem.Spec PyProof.Rows L2
/-- all but tables and M's objects stay -/
structure Kn (M : List Addr) (H H' : Hp) : Prop where
  t : TLe H H'
  k : ∀ b o, b ∉ M → (∀ ps, o ≠ .tbl ps) → H b = some o → H' b = some o
theorem Kn.refl {M : List Addr} (H : Hp) : Kn M H H := ⟨.refl H, fun _ _ _ _ h => h⟩
theorem Kn.trans {M : List Addr} {H H1 H2 : Hp} (a : Kn M H H1) (b : Kn M H1 H2) : Kn M H H2 := ⟨a.t.trans b.t, fun x o n z h => b.k x o n z (a.k x o n z h)⟩
theorem Kn.sub {M M' : List Addr} {H H' : Hp} (a : Kn M H H') (h : ∀ b ∈ M, b ∈ M') : Kn M' H H' := ⟨a.t, fun b o n => a.k b o fun z => n (h b z)⟩
theorem Kp.kn {M : List Addr} {H H' : Hp} (a : Kp M H H') : Kn M H H' := ⟨a.t, fun b o n _ h => a.k b o n h⟩
theorem Ex.kn {M : List Addr} {H H' : Hp} (e : Ex H H') : Kn M H H' := e.kp.kn
theorem extN_kn {M : List Addr} {H H' : Hp} (e : LamX.ExtN H H') : Kn M H H' := ⟨fun a xs h => e a _ h fun ps z => (by cases z), fun b o _ z h => e b o h z⟩
theorem Kn.lst {M : List Addr} {H H' : Hp} {l : Addr} {ds : List PyData} (a : Kn M H H') (h : Lst H l ds) (n : l ∉ M) : Lst H' l ds := by
  obtain ⟨vs, h1, h2⟩ := h
  exact ⟨vs, a.k _ _ n (fun ps z => by cases z) h1, h2.mono a.t⟩
theorem Pen.kn {M : List Addr} {H H' : Hp} {p : Addr} {n : Nat} (h : Pen H p n) (e : Kn M H H') (hp : p ∉ M) : Pen H' p n := by
  obtain ⟨a, b, c, h1, h2⟩ := h
  exact ⟨a, b, c, e.k _ _ hp (fun ps z => by cases z) h1, h2⟩
theorem WkAt.kn {K : PySem.W.Frag} {M : List Addr} {H H' : Hp} {x pl : Addr} {h : Ho} {hall : Int} {key : List Int} {n : Nat} (w : WkAt K H x pl h hall key n) (k : Kn M H H') (hx : x ∉ M) (hp : pl ∉ M) : WkAt K H' x pl h hall key n := by
  obtain ⟨dx, vh, vb, vs, vk, past, kept, h1, h2, h3, h4, h5, h6, h7⟩ := w
  exact ⟨dx, vh, vb, vs, vk, past, kept, k.k _ _ hx (fun ps z => by cases z) h1, h2.mono k.t, h3.mono k.t, h4.mono k.t, h5, k.k _ _ hp (fun ps z => by cases z) h6, h7⟩
/-- M's objects are no tables, no code -/
def NoTb (M : List Addr) (H : Hp) : Prop := ∀ b ∈ M, ∀ o, H b = some o → (∀ ps, o ≠ .tbl ps) ∧ ∀ φ, o ≠ .ext φ
theorem tabs_kp {T : List (Addr × Str)} {M : List Addr} {H H' : Hp} (t : LamX.Tabs T H) (k : Kp M H H') (n : NoTb M H) : LamX.Tabs T H' := fun p hp => by
  obtain ⟨ps, h1, h2, h3⟩ := t p hp
  refine ⟨ps, k.k _ _ (fun z => (n _ z _ h1).1 ps rfl) h1, h2, fun pos cv hc => ?_⟩
  obtain ⟨c, e1, e2⟩ := h3 pos cv hc
  exact ⟨c, e1, k.k _ _ (fun z => (n _ z _ e2).2 _ rfl) e2⟩
theorem tabs_ex {T : List (Addr × Str)} {H H' : Hp} (t : LamX.Tabs T H) (e : Ex H H') : LamX.Tabs T H' := t.ext e
theorem WkAt.noTb {K : PySem.W.Frag} {H : Hp} {x pl : Addr} {h : Ho} {hall : Int} {key : List Int} {n : Nat} (w : WkAt K H x pl h hall key n) : NoTb [x, pl] H := by
  obtain ⟨dx, vh, vb, vs, vk, past, kept, h1, h2, h3, h4, h5, h6, h7⟩ := w
  intro b hb o ho
  rcases List.mem_cons.mp hb with rfl | hb
  · rw [h1] at ho
    cases ho
    exact ⟨fun _ z => (by cases z), fun _ z => (by cases z)⟩
  · obtain rfl : b = pl := by simpa using hb
    rw [h6] at ho
    cases ho
    exact ⟨fun _ z => (by cases z), fun _ z => (by cases z)⟩
theorem Pen.noTb {H : Hp} {p : Addr} {n : Nat} (h : Pen H p n) : NoTb [p] H := by
  obtain ⟨a, b, c, h1, h2⟩ := h
  intro x hx o ho
  obtain rfl : x = p := by simpa using hx
  rw [h1] at ho
  cases ho
  exact ⟨fun _ z => (by cases z), fun _ z => (by cases z)⟩
section
variable {X : Cx} {k : Nat} {sc : Scope}
/-- _law_said(lambda: w.play((e,))) -/
theorem pe_said {iw ie j : Nat} {c P : Addr} {params : Arguments} {scope : Scope} {p lpos pos q1 q2 q3 q4 q5 : Pos} (A : Hs X k) (hk : 9 ≤ k) (hs : X.env.scope = sc) (hg : glB sc "_law_said" = true) (TB : LamX.TabB X.base X.mg c P) (hcode : X.env.code = .ref c)
    (hw : X.N[iw]? = some "_law_walker") (he : X.N[ie]? = some "_law_entry_here") (L : LamX.LamS X.env.scope scope) (vw : Vis scope "_law_walker") (ve : Vis scope "_law_entry_here") (hdef : defaultsOf params X.env = ([], []))
    (hbind : ∀ (q : Str) (cl : List (Str × Addr)) (pm cv ctv : Value), bindArgs (PySem.W.kla_fn "<lambda>" q params (.Call (.Attribute (.Name "_law_walker" q1) "play" q2) [.Tuple [.Name "_law_entry_here" q3] j q4] [] q5) scope cl pm cv ctv) ⟨[], []⟩ = pure [])
    {pl : Sem Bool} (ht : ∀ env : Env, eval (.Call (.Attribute (.Name "_law_walker" q1) "play" q2) [.Tuple [.Name "_law_entry_here" q3] j q4] [] q5) env = (do
      let ov ← eval (.Name "_law_walker" q1) env
      standAt q2.atName
      let (f, first) ← holding [ov] (getMethod ov "play" (L2.plainOf (.Name "_law_walker" q1) env))
      callWith q5 f first (backTo q5 (starEach [.Tuple [.Name "_law_entry_here" q3] j q4] env)) (backToKw q5 (keywordEach [] env)))) :
    PE X (.Call (.Name "_law_said" p) [.Lambda params (.Call (.Attribute (.Name "_law_walker" q1) "play" q2) [.Tuple [.Name "_law_entry_here" q3] j q4] [] q5) scope lpos] [] pos)
      (LamX.tLam [(P, X.env.qual ++ "<lambda>")] (TTsaid X.K) fun E => tMeth (WC X.K) "play" (SpDo X.K) [] E (tVar iw) (tCons (tTup (tCons (tVar ie) tNil)) tNil)) := by
  obtain ⟨fd, F⟩ := A.t.d.defs (d := dG "_law_said" 105) (List.mem_of_getElem? (i := 54) rfl)
  have hb := F.bindsN (ps := ["_law_call"]) (fun _ _ _ _ _ _ us hl => match us, hl with | [_], _ => rfl)
  have hkp := F.kp
  have hm := A.t.glo (x := "_law_said") (by decide +kernel)
  obtain ⟨oc, od, dV, kV, doc, pm, an, cdv, ct, osl, rfl, lk, hcd, _, _⟩ := F.ex
  obtain ⟨fp, bp, Fp⟩ := play_do (P := X.prog) (w := X.w) A.t
  have lo1 : (defScope (top 105)).names.lookup ("_law_call" : Str) = some .local := by decide +kernel
  refine LamX.pe_lamcall (k := 6) (c := c) (P := P) (Ng := ["_law_call", "_law_e"]) (gl_of hs hg) hm hkp lk hcd hb sc_said rfl (.inl lo1) (said_gives A.t (A.room.mono (by omega))) TB hcode List.mem_cons_self (fun p hp _ => by rw [List.mem_singleton.mp hp]) (A.room.mono (by omega)) L hdef hbind (fun A2 outer s H E f c' hr => ?_) (gl_db hg) (by decide +kernel) (by decide +kernel)
  exact pe_meth (X := LamX.lamCx X A2 outer s H E scope f c') (CX := L2.CX X.prog X.w) (E := E) (pe_var (i := iw) hw vw (by decide +kernel) (by decide +kernel)) A.t.cls (A.t.meth (g := "play") (by decide +kernel)) (Fp X.base) hr bp .nil (passes_call (W := fun cls d _ H => E cls d H) (takes_of rfl rfl rfl rfl) fun _ _ _ _ z => z) (pa_cons (pe_tup (pa_cons (pe_var (i := ie) he ve (by decide +kernel) (by decide +kernel)) pa_nil)) pa_nil) (star_of rfl) (plain_of rfl) (ht _)
/-- a test, whatever it changes: J tells how -/
structure TvN (X : Cx) (e : Expr) (env : Nv) (H : Hp) (J : Bool → Hp → Prop) : Prop where
  run : ∀ σ H1, Ex H H1 → NvOk X H1 σ env → ∀ Q : Bool → Hp → Prop, (∀ b H2, TLe H1 H2 → J b H2 → Q b H2) → wT X e σ H1 Q
section
variable {c : Expr} {env : Nv} {H : Hp} {D : Ends} {body rest els : List Stmt} {pos : Pos} {J : Bool → Hp → Prop}
theorem gn_if (hc : TvN X c env H J) (h1 : ∀ H1, J true H1 → Go X body env H1 { D with nx := wB X rest D }) (h2 : ∀ H1, J false H1 → Go X els env H1 { D with nx := wB X rest D }) : Go X (.If c body els pos :: rest) env H D := ⟨fun σ H1 e0 ok =>
  ⟨_, pss_cons (ps_if pt_w pb_w pb_w) pb_w, hc.run σ H1 e0 ok _ fun b H2 t2 j => by
    cases b with
    | true => exact (h1 H2 j).run σ H2 (Ex.refl _) (ok.mono t2)
    | false => exact (h2 H2 j).run σ H2 (Ex.refl _) (ok.mono t2)⟩⟩
theorem gn_when (hc : TvN X c env H J) (h1 : ∀ H1, J true H1 → Go X body env H1 { D with nx := wB X rest D }) (h2 : ∀ H1, J false H1 → Go X rest env H1 D) : Go X (.If c body [] pos :: rest) env H D :=
  gn_if hc h1 fun H1 j => go_nil fun σ H2 e2 ok => (h2 H1 j).run σ H2 e2 ok
end
theorem has_slot {env : Nv} {i : Nat} {n : Str} {s : Sl} {H : Hp} {σ : L2.St} (h : Has env i n s) (ok : NvOk X H σ env) : ∃ o, σ[i]? = some o ∧ SlOk H o s := h.ok ok.sl
/-- _law_said(lambda: w.play((e,))) != ("told", None) -/
theorem tn_said {iw ie j j2 j3 j4 : Nat} {c P : Addr} {params : Arguments} {scope : Scope} {p lpos pos q1 q2 q3 q4 q5 q6 q7 q8 q9 : Pos} {env : Nv} {H : Hp} {x pl : Addr} {h : Ho} {hall : Int} {key : List Int} {n : Nat} {d : Deed} (A : Hs X k) (hk9 : 9 ≤ k) (hs : X.env.scope = sc) (hg : glB sc "_law_said" = true) (TB : LamX.TabB X.base X.mg c P) (hcode : X.env.code = .ref c)
    (hw : Has env iw "_law_walker" (.v (.ref x))) (he : Has env ie "_law_entry_here" (.d (deedD d))) (L : LamX.LamS X.env.scope scope) (vw : Vis scope "_law_walker") (ve : Vis scope "_law_entry_here") (hdef : defaultsOf params X.env = ([], []))
    (hbind : ∀ (q : Str) (cl : List (Str × Addr)) (pm cv ctv : Value), bindArgs (PySem.W.kla_fn "<lambda>" q params (.Call (.Attribute (.Name "_law_walker" q1) "play" q2) [.Tuple [.Name "_law_entry_here" q3] j q4] [] q5) scope cl pm cv ctv) ⟨[], []⟩ = pure [])
    (ht : ∀ env : Env, eval (.Call (.Attribute (.Name "_law_walker" q1) "play" q2) [.Tuple [.Name "_law_entry_here" q3] j q4] [] q5) env = (do
      let ov ← eval (.Name "_law_walker" q1) env
      standAt q2.atName
      let (f, first) ← holding [ov] (getMethod ov "play" (L2.plainOf (.Name "_law_walker" q1) env))
      callWith q5 f first (backTo q5 (starEach [.Tuple [.Name "_law_entry_here" q3] j q4] env)) (backToKw q5 (keywordEach [] env))))
    (tabs : LamX.Tabs [(P, X.env.qual ++ "<lambda>")] H) (w : WkAt X.K H x pl h hall key n) (ok : HoOk h) (hk : KeyOk h.teeth key) (hd : DeedOk h d) (hn : n ≤ 1000) :
    TvN X (.Compare (.Call (.Name "_law_said" p) [.Lambda params (.Call (.Attribute (.Name "_law_walker" q1) "play" q2) [.Tuple [.Name "_law_entry_here" q3] j q4] [] q5) scope lpos] [] pos) [.NotEq] [.Tuple [.Constant (.str "told") j2 q6, .Constant .none j3 q7] j4 q8] q9) env H
      (fun b H' => b = !isN (bar h hall key d) ∧ Kn [x, pl] H H' ∧ LamX.Tabs [(P, X.env.qual ++ "<lambda>")] H' ∧ (b = false → WkAt X.K H' x pl h (hallBehind h hall d) (doneKey h d key) (n + 1))) := ⟨fun σ H1 e0 okn Q kk => by
  have hNw : X.N[iw]? = some "_law_walker" := by rw [okn.names]; exact hw.name
  have hNe : X.N[ie]? = some "_law_entry_here" := by rw [okn.names]; exact he.name
  refine ⟨_, pt_cmpR (op_neD A.units) (pe_said A hk9 hs hg TB hcode hNw hNe L vw ve hdef hbind (pl := L2.plainOf (.Name "_law_walker" q1) X.env) ht) pe_w (nomark _), tabs_ex tabs e0, fun H2 x2 tb2 => ?_⟩
  obtain ⟨o1, s1, r1⟩ := has_slot hw okn
  obtain ⟨o2, s2, r2⟩ := has_slot he okn
  have kn2 : Kn [x, pl] H H2 := e0.kn.trans (extN_kn x2)
  have w2 : WkAt X.K H2 x pl h hall key n := w.kn ((e0.kn (M := [])).trans (extN_kn x2)) (fun z => by cases z) (fun z => by cases z)
  have t12 : TLe H1 H2 := (extN_kn (M := []) x2).t
  cases o1 with
  | none => exact r1.elim
  | some v1 =>
  obtain rfl : v1 = .ref x := r1
  cases o2 with
  | none => exact r2.elim
  | some v2 =>
  have r2 : Rp H1 v2 (deedD d) := r2
  obtain ⟨dx, vh, vb, vs, vk, past, kept, g1, _⟩ := id w2
  refine ⟨.ref x, s1, x, dx, _, rfl, g1, look_none _ _ _ _ _ (by decide +kernel), ⟨v2, s2, by rw [sizeLine_eq]; show 1 ≤ 16777216; decide, fun pp hp => ?_⟩⟩
  have en := Ex.new (o := .tup [v2]) hp
  have w3 := w2.ex en
  have tb3 := tabs_ex tb2 en
  have rr : Rp (upd H2 pp (.tup [v2])) (.ref pp) (.tuple [deedD d]) := .tup upd_same (.cons ((r2.mono t12).mono en.t) .nil)
  have fin : ∀ v dv H', TLe H1 H' → Rp H' v dv → SeqAt.shaped dv = true → PyData.eqv dv (.tuple [.str "told", .none]) = isN (bar h hall key d) → (∀ H'', Ex H' H'' → Kn [x, pl] H H'' ∧ LamX.Tabs [(P, X.env.qual ++ "<lambda>")] H'' ∧ ((!isN (bar h hall key d)) = false → WkAt X.K H'' x pl h (hallBehind h hall d) (doneKey h d key) (n + 1))) →
      wE X (.Tuple [.Constant (.str "told") j2 q6, .Constant .none j3 q7] j4 q8) σ H' (fun u H'' => rNeD X.K v u H'' fun z H3 => ∃ b, z = .bl b ∧ Q b H3) := fun v dv H' t' rv sv ev hj => by
    refine (ed_tup (ea_cons ed_str (ea_cons ed_non ea_nil)) : EvD X _ env H' _).run σ H' (Ex.refl _) (okn.mono t') _ fun u H4 e4 r4 => ?_
    obtain ⟨a1, a2, a3⟩ := hj H4 e4
    refine ⟨dv, _, (rv.mono e4.t).dp, r4.dp, sv, by decide +kernel, _, rfl, kk _ H4 (t'.trans e4.t) ⟨by rw [ev], a1, a2, fun z => a3 (by rw [← z, ev])⟩⟩
  refine ⟨x, .ref pp, pl, h, hall, key, n, d, rfl, w3, rr, ok, hk, hd, hn, fun hb H' k1 w1 => ?_, fun hb H' e1 => ⟨rfl, rfl, fun v H'' e3 r3 => ?_⟩⟩
  · refine ⟨by rw [sizeLine_eq]; decide, fun t ht0 => ?_⟩
    have en2 := Ex.new (o := .tup [V.str "told", V.non]) ht0
    have kpA : Kn [x, pl] H (upd H' t (.tup [V.str "told", V.non])) := ((kn2.trans en.kn).trans k1.kn).trans en2.kn
    refine fin (.ref t) (.tuple [.str "told", .none]) _ (((t12.trans en.t).trans k1.t).trans en2.t) (.tup upd_same (.cons (.str _) (.cons .non .nil))) (by decide +kernel) (by rw [hb]; decide +kernel) fun H'' e'' => ⟨kpA.trans e''.kn, tabs_ex (tabs_ex (tabs_kp tb3 k1 w3.noTb) en2) e'', fun _ => (w1.ex en2).ex e''⟩
  · refine fin v _ H'' (((t12.trans en.t).trans e1.t).trans e3.t) r3 (by decide +kernel) (by rw [hb]; decide +kernel) fun H4 e4 => ⟨(((kn2.trans en.kn).trans e1.kn).trans e3.kn).trans e4.kn, tabs_ex (tabs_ex (tabs_ex tb3 e1) e3) e4, fun z => by rw [hb] at z; cases z⟩⟩
end
end WK
/-! WKFits -/
set_option Elab.async false
set_option linter.all false
set_option maxRecDepth 100000
set_option maxHeartbeats 1000000
/-! _law_fits -/
namespace L2
open PySem PySem.Spec PyProof.Rows
/-- in a tuple of data of any depth -/
def rInTp (K : PySem.W.Frag) : R2 := fun x y H Q => ∃ d ds, Dp K H x d ∧ Dp K H y (.tuple ds) ∧ SeqAt.shaped d = true ∧ SeqAt.shaped (.tuple ds) = true ∧ Q (.bl (ds.any fun z => PyData.eqv z d)) H
theorem op_inTp {X : Cx} (hu : X.A.units + 65 < cLine) : OpR X (compareOp .In) (rInTp X.K) := by
  rintro pins s σ H x y v u Q I rx ry ⟨d, ds, hd, he, sd, se, q⟩
  obtain ⟨as, r1⟩ := Dp.reads I d x v hd rx
  obtain ⟨bs, r2⟩ := Dp.reads I (.tuple ds) y u he ry
  exact SeqAt.in_tuple_reads r2 r1 (SeqAt.canLay_of_shaped se) (SeqAt.canLay_of_shaped sd) (room_in_shapedT sd hu) ⟨.bl _, H, I, rfl, q⟩
where
  room_in_shapedT {X : Cx} {d : PyData} {n : Nat} (sd : SeqAt.shaped d = true) (hu : X.A.units + 65 < cLine) : X.A.units + 1 + min n d.depth < cLine := by
    have h1 : d.depth ≤ 64 := by
      unfold SeqAt.shaped at sd
      simp only [Bool.and_eq_true, decide_eq_true_eq] at sd
      exact sd.2
    have h2 : min n d.depth ≤ d.depth := Nat.min_le_right _ _
    omega
end L2
namespace WK
open PySem PySem.Spec PyProof.Rows L2
section
variable {X : Cx} {k : Nat} {e a b it tg : Expr} {env : Nv} {H : Hp} {D : Ends} {x : PyData} {ds items : List PyData} {pos p : Pos} {sc : Scope} {rest body : List Stmt} {h : Ho} {hall : Int} {key : List Int}
theorem et_inTp (A : Hs X k) (ha : EvD X a env H x) (hb : EvD X b env H (.tuple ds)) (sx : SeqAt.shaped x = true) (sd : SeqAt.shaped (.tuple ds) = true) (hm : behindInMarks .In b = false := by rfl) : EvT X (.Compare a [.In] [b] pos) env H (ds.any fun z => PyData.eqv z x) :=
  et_cmpR (op_inTp (by have := A.room.un; omega)) ha hb (fun v u H2 r1 r2 Q q => ⟨x, ds, r1.dp, r2.dp, sx, sd, q⟩) hm
theorem go_setW {i : Nat} {n : Str} {p' : Pos} {nv : Addr → Nv} (A : Hs X k) (hw : EvW2 X e env H h hall key) (hp : ∀ a, Put env i n (.v (.ref a)) (nv a)) (hl : LocN X n) (q : ∀ x pl H1, H x = none → H pl = none → Ex H H1 → WkAt X.K H1 x pl h hall key 0 → Go X rest (nv x) H1 D)
    (hs : swapsWith e (some (.Name n p')) pos.line X.env = pure false := by rfl) : Go X (.Assign [.Name n p'] e pos :: rest) env H D := ⟨fun σ H1 e0 ok =>
  ⟨_, pss_cons (ps_set A.nd (by rw [ok.names]; exact (hp 0).name.1) hl.loc pe_w hs hl.fn) pb_w, hw.run σ H1 e0 ok _ fun x pl H2 n1 n2 e2 w => (q x pl H2 (e0.back n1) (e0.back n2) (e0.trans e2) w).run _ H2 (Ex.refl _) ((ok.mono e2.t).put (hp x) rfl hl.vis)⟩⟩
/-- what is walked reads no list -/
structure EvI0 (X : Cx) (tg it : Expr) (env : Nv) (H : Hp) (items : List PyData) : Prop where
  run : ∀ σ H1, Ex H H1 → NvOk X H1 σ env → ∀ R : It → Hp → Prop, (∀ J H2, Ex H1 H2 → Iter J H2 items [] → R J H2) → wI X tg it σ H1 R
theorem ei0_tup (h : EvD X it env H (.tuple ds)) : EvI0 X tg it env H ds := ⟨fun σ H1 e0 ok R q => ⟨_, pi_tup pe_w, h.run σ H1 e0 ok _ fun v H2 e2 r => by
  cases r with
  | tup h1 r1 => exact ⟨_, rfl, ⟨_, SqT.of h1⟩, q _ H2 e2 (iter_tup h1 r1)⟩⟩⟩
theorem ei0_range {n : Int} (A : Hs X k) (hs : X.env.scope = sc) (hg : glB sc "range" = true) (h : EvD X a env H (.int n)) (hn : 0 ≤ n ∧ n ≤ 1000000) (hp : plainE a = true := by rfl) : EvI0 X tg (.Call (.Name "range" p) [a] [] pos) env H (rangeD n) := ⟨fun σ H1 e0 ok R q =>
  ⟨_, pi_range1 (gl_of hs hg) (A.t.free (by decide +kernel)) pa_w (star_of hp), ((ea_cons h ea_nil hp).run σ H1 e0 ok _ fun vs H2 e2 r => by
    cases r with
    | cons r1 r2 =>
    cases r1
    cases r2
    refine ⟨n, rfl, by omega, by omega, q _ H2 e2 ⟨?_⟩⟩
    rw [rangeD_len]
    refine walk_mono walk_range (fun _ _ => True.intro) fun i H' x H'' hi g ⟨e3, z⟩ => ?_
    subst e3 z
    refine ⟨Ex.refl _, .int (i : Int), ?_, by show Rp H'' (.int (0 + (i : Int))) _; rw [Int.zero_add]; exact .int _⟩
    unfold rangeD
    rw [List.getElem?_map, List.getElem?_range hi]
    rfl)⟩⟩
/-- a for, whatever it changes -/
theorem gn_for (P : Hp → Nat → Nv → Hp → Prop) (A : Hs X k) (hi : EvI0 X tg it env H items) (p0 : ∀ H2, Ex H H2 → P H2 0 env H2) (pk : ∀ H2 i nv H', P H2 i nv H' → TLe H2 H')
    (turn : ∀ H2, Ex H H2 → ∀ i d nv H', items[i]? = some d → P H2 i nv H' → ∃ w nv2, Tgt tg d nv w nv2 ∧ (∀ q ∈ w, LocN X q.1) ∧
      ∀ H3, Ex H' H3 → Go X body nv2 H3 { D with nx := fun σ H4 => ∃ nv3, NvOk X H4 σ nv3 ∧ P H2 (i + 1) nv3 H4, ct := fun σ H4 => ∃ nv3, NvOk X H4 σ nv3 ∧ P H2 (i + 1) nv3 H4, bk := wB X rest D })
    (done : ∀ H2, Ex H H2 → ∀ nv H', P H2 items.length nv H' → Go X rest nv H' D) (hs : ∀ x, foldedSetIterable it X.env x = pure x := by intro _; rfl) : Go X (.For tg it body [] pos :: rest) env H D := ⟨fun σ H1 e0 ok => by
  refine ⟨_, pss_cons (ps_for (by rw [A.xe]; exact PassesOwn.never) A.calm pi_w pg_w pb_w hs) pb_w, hi.run σ H1 e0 ok _ fun J H2 e2 I => ?_⟩
  have eA := e0.trans e2
  refine for_it I.walk (fun i σ' H' => ∃ nv, NvOk X H' σ' nv ∧ P H2 i nv H') ⟨env, ok.mono e2.t, p0 H2 eA⟩ (fun i σ' H' _ ⟨nv, _, q⟩ => ⟨pk H2 i nv H' q, fun b hb => by cases hb⟩) ?_ ?_
  · rintro i x σ' H' H'' hi ⟨nv, okk, q⟩ ⟨ex, d, hd, r⟩
    obtain ⟨w, nv2, T, hl, g⟩ := turn H2 eA i d nv H' hd q
    exact T.w A.calm A.nd (okk.mono ex.t) hl r fun σ3 ok3 _ => (g H'' ex).run σ3 H'' (Ex.refl _) ok3
  · rintro σ' H' ⟨nv, okk, q⟩
    exact (done H2 eA nv H' q).run σ' H' (Ex.refl _) okk⟩
end
/-- a def's promise at one base -/
structure CalB (P : Program) (w : World) (K : PySem.W.Frag) (mg : Str → Option Value) (base : Heap) (x : Str) (k : Nat) (ps : List Str) (sp : Sp) : Prop where
  ex : ∃ f fd, mg x = some (.ref f) ∧ PySem.W.keepIn K (.ref f) = true ∧ Binds K fd ps [] ∧ FnOk P w K mg base CX0 k f fd ps sp ∧ FdAt K f fd
theorem Cal.mkT {P : Program} {w : World} {K : PySem.W.Frag} {mg : Str → Option Value} {base : Heap} {x : Str} {i k : Nat} {N ps : List Str} {sp : Sp} (T : Tx K mg) (hd : dG x i ∈ fn) (hg : faB (isGlo x) = true) (S : FnScope N ps (defScope (top i)))
    (hb : ∀ (kV doc pm : Value) (an : Option Addr) (cdv ct : Value) (us : List Value), us.length = ps.length → bindArgs (PySem.W.fnOf x x (defArgs (top i)) (defBody (top i)) (defScope (top i)) .none kV doc pm an cdv ct) ⟨us, []⟩ = Pure.pure (ps.zip us))
    (len : ∀ vs H Q E, sp vs H Q E → vs.length = ps.length)
    (body : ∀ X : Cx, Hs X k → X.K = K → X.mg = mg → X.base = base → X.env.code = .ref (He.cT K (x, none)).1 → X.env.qual = (envOfC x (defScope (top i)) 0 0 .none).qual → X.env.scope = defScope (top i) → X.N = N → (∀ y, X.fn y = true) → ∀ vs H Q E, sp vs H Q E → wB X (defBody (top i)) { nx := fun _ H' => Q .non H', rt := Q } (L2.start N vs) H) : CalB P w K mg base x (k + 1) ps sp := by
  obtain ⟨fd, F⟩ := T.d.defs hd
  have hbn := F.bindsN hb
  have hgl := T.glo hg
  have hkp := F.kp
  have hat := FunD_at F
  obtain ⟨oc, od, dV, kV, doc, pm, an, cdv, ct, osl, rfl, lk, hcd, _, _⟩ := F.ex
  refine ⟨_, _, hgl, hkp, hbn, fn_of lk hcd S len fun A outer s H vs Q E hr hsp => ?_, hat⟩
  obtain ⟨c, rfl⟩ := He.codeIn_ref hcd
  have ec : He.codeOf K (x, none) = c := He.codeOf_eq lk rfl
  have := body ((cxOf CX0 P w K mg base N x (defScope (top i)) (He.fAd K (x, none)) (.ref c) A outer s H E).nox) ⟨T, hr, rfl, S.nd, rfl⟩ rfl rfl rfl (by rw [← ec]; rfl) rfl rfl rfl (fun _ => rfl) vs H Q E hsp
  exact ⟨_, PSs.nox pb_w, this⟩
/-- where _law_fits keeps the code of its lambda -/
def fitTab (K : PySem.W.Frag) : List (Addr × Str) := [((He.cT K ("_law_fits", none)).2, (envOfC "_law_fits" (defScope (top 115)) 0 0 .none).qual ++ "<lambda>")]
def SpFits (K : PySem.W.Frag) : Sp := fun vs H Q _ => ∃ vh vst vr h hall key r, vs = [vh, vst, vr] ∧ Rp H vh (hoD h) ∧ Rp H vst (standD hall key) ∧ Rp H vr (recD r) ∧ HoOk h ∧ HallOk h hall ∧ KeyOk h.teeth key ∧ (∀ e ∈ r, EntryOk h e) ∧ r.length ≤ 12 ∧ LamX.Tabs (fitTab K) H ∧ ∀ H', Kn [] H H' → LamX.Tabs (fitTab K) H' → Q (.bl (fitB h hall key r)) H'
theorem len__law_fits (K : PySem.W.Frag) : ∀ vs H Q E, SpFits K vs H Q E → vs.length = (["_law_house_here", "_law_stand_here", "_law_record"] : List Str).length := fun vs H Q E ⟨_, _, _, _, _, _, _, h, _⟩ => by rw [h]; rfl
theorem kn_drop {M : List Addr} {H H1 H' : Hp} (e : Ex H H1) (k : Kn M H1 H') (n : ∀ b ∈ M, H b = none) : Kn [] H H' := ⟨e.t.trans k.t, fun b o _ z h => k.k b o (fun w => by rw [n b w] at h; cases h) z (e b o h)⟩
theorem may_go {h : Ho} {hall l : Int} {key : List Int} (hl : 0 ≤ l ∧ l ≤ (h.wears.length : Int) - 1) : (((mayOf h hall key).map deedD).any fun z => PyData.eqv z (.tuple [.str "go", .int l])) = isN (bar h hall key (.go l)) := by
  have e1 : ∀ d : Deed, PyData.eqv (deedD d) (.tuple [.str "go", .int l]) = true → d = .go l := fun d hd => by
    cases d with
    | go i =>
      have e : PyData.eqv (deedD (.go i)) (.tuple [.str "go", .int l]) = (PyData.eqv (.int i) (.int l) && true) := by
        show (PyData.eqv (.str "go") (.str "go") && (PyData.eqv (.int i) (.int l) && true)) = _
        rw [go_go, Bool.true_and]
      rw [e, Bool.and_true, eqv_int] at hd
      rw [of_decide_eq_true hd]
    | file i =>
      have e : PyData.eqv (deedD (.file i)) (.tuple [.str "go", .int l]) = (PyData.eqv (.str "file") (.str "go") && (PyData.eqv (.int i) (.int l) && true)) := rfl
      rw [e, file_go, Bool.false_and] at hd
      cases hd
    | lift i =>
      have e : PyData.eqv (deedD (.lift i)) (.tuple [.str "go", .int l]) = (PyData.eqv (.str "lift") (.str "go") && (PyData.eqv (.int i) (.int l) && true)) := rfl
      rw [e, lift_go, Bool.false_and] at hd
      cases hd
  have e2 : PyData.eqv (deedD (.go l)) (.tuple [.str "go", .int l]) = true := by
    show (PyData.eqv (.str "go") (.str "go") && (PyData.eqv (.int l) (.int l) && true)) = true
    rw [go_go, eqv_int, decide_eq_true rfl]
    rfl
  cases hb : isN (bar h hall key (.go l)) with
  | true =>
    rw [List.any_eq_true]
    refine ⟨deedD (.go l), List.mem_map.mpr ⟨.go l, List.mem_filter.mpr ⟨?_, hb⟩, rfl⟩, e2⟩
    unfold allDeeds
    refine List.mem_append_left _ (List.mem_append_right _ (List.mem_map.mpr ⟨l.toNat, List.mem_range.mpr (by omega), ?_⟩))
    rw [Int.toNat_of_nonneg hl.1]
  | false =>
    rw [List.any_eq_false]
    intro z hz w
    obtain ⟨d, hd, rfl⟩ := List.mem_map.mp hz
    have := (List.mem_filter.mp hd).2
    rw [e1 d w, hb] at this
    cases this
def SpFitP (X : Cx) (h : Ho) (hall : Int) (key : List Int) (r : List Entry) (x pl : Addr) (H2 : Hp) (i : Nat) (H' : Hp) (hl2 : Int) (ky2 : List Int) : Prop := Kn [x, pl] H2 H' ∧ LamX.Tabs (fitTab X.K) H' ∧ WkAt X.K H' x pl h hl2 ky2 i ∧ KeyOk h.teeth ky2 ∧ fitB h hall key r = fitB h hl2 ky2 (r.drop i)
theorem sc__law_fits : FnScope ((["_law_house_here", "_law_stand_here", "_law_record"] : List Str) ++ (["_law_walker", "_law_entry_here", "_law_hall", "_law_key_here"] : List Str)) ["_law_house_here", "_law_stand_here", "_law_record"] (defScope (top 115)) := fnScope_by (by decide +kernel)
theorem cal__law_fits {P : Program} {w : World} {K : PySem.W.Frag} {mg : Str → Option Value} {base : Heap} (T : Tx K mg) (TB : LamX.TabB base mg (He.cT K ("_law_fits", none)).1 (He.cT K ("_law_fits", none)).2) : CalB P w K mg base "_law_fits" 13 ["_law_house_here", "_law_stand_here", "_law_record"] (SpFits K) := by
  refine Cal.mkT T (i := 115) (N := (["_law_house_here", "_law_stand_here", "_law_record"] : List Str) ++ (["_law_walker", "_law_entry_here", "_law_hall", "_law_key_here"] : List Str)) (List.mem_of_getElem? (i := 64) rfl) (by decide +kernel) sc__law_fits (fun _ _ _ _ _ _ us hl => match us, hl with | [_, _, _], _ => rfl) (len__law_fits K) fun X A hK hmg hbase hcode hqual hs hN hf vs H Q E h => ?_
  obtain ⟨vh, vst, vr, h, hall, key, r, rfl, r1, r2, r3, ok, hh, hk, hen, hl, tabs, q⟩ := h
  refine go_beginS (ss := [.d (hoD h), .d (standD hall key), .d (recD r)]) hs hN (.cons r1 (.cons r2 (.cons r3 .nil))) rfl (by decide +kernel) ?_
  subst hK hmg hbase
  simp only [nvS, unM]
  refine go_setW A (ew_make A hs (ed_var .here hs (by decide +kernel)) (ed_var (.next (.here)) hs (by decide +kernel)) ok hh hk) (fun _ => (.next (.next (.next (.here))))) (locN hf hs (by decide +kernel)) fun x pl H1 nx npl e1 w1 => ?_
  have fin : ∀ (t : Bool) v H', Kn [x, pl] H1 H' → LamX.Tabs (fitTab X.K) H' → fitB h hall key r = t → Rp H' v (.bool t) → Q v H' := fun t v H' kn tb ht rv => by
    cases rv
    rw [← ht]
    exact q H' (kn_drop e1 kn fun b hb => by
      rcases List.mem_cons.mp hb with rfl | hb
      · exact nx
      · obtain rfl : b = pl := by simpa using hb
        exact npl) tb
  refine gn_for (fun H2 i nv H' => Kn [x, pl] H1 H2 ∧ ∃ hl2 ky2, SpFitP X h hall key r x pl H2 i H' hl2 ky2 ∧ ∃ s1 s2 s3, nv = ([("_law_house_here", .d (hoD h)), ("_law_stand_here", .d (standD hall key)), ("_law_record", .d (recD r)), ("_law_walker", .v (.ref x)), ("_law_entry_here", s1), ("_law_hall", s2), ("_law_key_here", s3)] : Nv)) A (ei0_tup (ds := r.map entryD) (ed_var (.next (.next (.here))) hs (by decide +kernel))) (fun H2 e2 => ⟨e2.kn, hall, key, ⟨Kn.refl _, tabs_ex (tabs_ex tabs e1) e2, w1.ex e2, hk, rfl⟩, _, _, _, rfl⟩) (fun H2 i nv H' ⟨_, _, _, p, _⟩ => p.1.t) ?_ ?_
  · rintro H2 e2 i d nv H' hd ⟨kA, hl2, ky2, ⟨kB, tb, wk, hk2, hfit⟩, s1, s2, s3, rfl⟩
    rw [List.getElem?_map] at hd
    cases hri : r[i]? with
    | none =>
      rw [hri] at hd
      cases hd
    | some e =>
      rw [hri] at hd
      obtain rfl : entryD e = d := by simpa using hd
      have hil : i < r.length := (List.getElem?_eq_some_iff.mp hri).1
      have hee := hen e (List.mem_of_getElem? hri)
      rw [drop_of hri] at hfit
      refine ⟨_, _, .name (.next (.next (.next (.next (.here))))), fun q hq => locN hf hs (by simp at hq; rcases hq with rfl; decide +kernel), fun H3 e3 => ?_⟩
      have tb3 := tabs_ex tb e3
      have wk3 := wk.ex e3
      have kC := kB.trans (e3.kn (M := [x, pl]))
      refine go_unp A (ed_stand A (ev_var (.next (.next (.next (.here)))) hs (by decide +kernel)) wk3) (.tup (.cons (.name (.next (.next (.next (.next (.next (.here))))))) (.cons (.name (.next (.next (.next (.next (.next (.next (.here)))))))) .nil))) (fun q hq => locN hf hs (by simp at hq; rcases hq with rfl | rfl <;> decide +kernel)) ?_
      cases e with
      | seen t lo hi =>
        have hkl := hk2.1
        have hx := key_at (key := ky2) (t := t) hee.1.1 (by have := hee.1.2; omega)
        refine go_if (((et_eq A (ed_ix (ds := [.str "seen", .int t, .int lo, .int hi]) (ed_var (.next (.next (.next (.next (.here))))) hs (by decide +kernel)) ed_int (by rfl)) ed_str (by first | rfl | assumption | decide +kernel) (by first | rfl | assumption | decide +kernel)) : EvT X _ _ H3 _).is seen_seen) (fun _ => ?_) (fun z => by cases z)
        refine go_when (et_not (et_chain (ed_ix (d := .int lo) (ds := [.str "seen", .int t, .int lo, .int hi]) (ed_var (.next (.next (.next (.next (.here))))) hs (by decide +kernel)) ed_int (by rfl)) (ed_ix (ed_var (.next (.next (.next (.next (.next (.next (.here))))))) hs (by decide +kernel)) (ed_ix (d := .int t) (ds := [.str "seen", .int t, .int lo, .int hi]) (ed_var (.next (.next (.next (.next (.here))))) hs (by decide +kernel)) ed_int (by rfl)) hx) (ed_ix (d := .int hi) (ds := [.str "seen", .int t, .int lo, .int hi]) (ed_var (.next (.next (.next (.next (.here))))) hs (by decide +kernel)) ed_int (by rfl)))) (fun ht => ?_) (fun ht => ?_)
        · refine go_ret ed_bl fun v H4 e4 rv => fin false v H4 ((kA.trans kC).trans e4.kn) (tabs_ex tb3 e4) ?_ rv
          rw [hfit]
          show (inGap ky2 t lo hi && fitB h hl2 ky2 (r.drop (i + 1))) = false
          have ht2 : inGap ky2 t lo hi = false := by
            rw [Bool.not_eq_true'] at ht
            exact ht
          rw [ht2, Bool.false_and]
        · refine go_nil fun σ H4 e4 ok4 => ⟨_, pss_nil, _, ok4, kA, hl2, ky2, ⟨kC.trans e4.kn, tabs_ex tb3 e4, (wk3.ex e4).le (by omega), hk2, ?_⟩, _, _, _, rfl⟩
          rw [hfit]
          show (inGap ky2 t lo hi && fitB h hl2 ky2 (r.drop (i + 1))) = _
          have ht2 : inGap ky2 t lo hi = true := by
            rw [Bool.not_eq_false'] at ht
            exact ht
          rw [ht2, Bool.true_and]
      | shut l =>
        have sxm : SeqAt.shaped (.tuple ((mayOf h hl2 ky2).map deedD)) = true := ((lay_tup (n := 1) fun d hd => by
          obtain ⟨dd, _, rfl⟩ := List.mem_map.mp hd
          exact lay_deed dd).le (by decide)).shaped
        have sxg : SeqAt.shaped (.tuple [.str "go", .int l]) = true := ((lay_deed (.go l)).le (by decide)).shaped
        refine go_if (((et_eq A (ed_ix (d := .str "shut") (ds := [.str "shut", .int l]) (ed_var (.next (.next (.next (.next (.here))))) hs (by decide +kernel)) ed_int (by rfl)) ed_str (by first | rfl | assumption | decide +kernel) (by first | rfl | assumption | decide +kernel)) : EvT X _ _ H3 _).is shut_seen) (fun z => by cases z) (fun _ => ?_)
        refine go_if (((et_eq A (ed_ix (d := .str "shut") (ds := [.str "shut", .int l]) (ed_var (.next (.next (.next (.next (.here))))) hs (by decide +kernel)) ed_int (by rfl)) ed_str (by first | rfl | assumption | decide +kernel) (by first | rfl | assumption | decide +kernel)) : EvT X _ _ H3 _).is shut_shut) (fun _ => ?_) (fun z => by cases z)
        refine go_when ((et_inTp A (ed_tup (ea_cons ed_str (ea_cons (ed_ix (d := .int l) (ds := [.str "shut", .int l]) (ed_var (.next (.next (.next (.next (.here))))) hs (by decide +kernel)) ed_int (by rfl)) ea_nil))) (ed_may A (ev_var (.next (.next (.next (.here)))) hs (by decide +kernel)) wk3 ok hk2) sxg sxm).is (may_go hee)) (fun ht => ?_) (fun ht => ?_)
        · refine go_ret ed_bl fun v H4 e4 rv => fin false v H4 ((kA.trans kC).trans e4.kn) (tabs_ex tb3 e4) ?_ rv
          rw [hfit]
          show ((!isN (bar h hl2 ky2 (.go l))) && fitB h hl2 ky2 (r.drop (i + 1))) = false
          rw [ht]
          rfl
        · refine go_nil fun σ H4 e4 ok4 => ⟨_, pss_nil, _, pss_nil, _, ok4, kA, hl2, ky2, ⟨kC.trans e4.kn, tabs_ex tb3 e4, (wk3.ex e4).le (by omega), hk2, ?_⟩, _, _, _, rfl⟩
          rw [hfit]
          show ((!isN (bar h hl2 ky2 (.go l))) && fitB h hl2 ky2 (r.drop (i + 1))) = _
          rw [ht]
          rfl
      | deed d =>
        have hkd : (deedD d) = .tuple [.str (kind1 d), .int (arg1 d)] := deedD_eq d
        have skd := shaped_kind d
        refine go_if (((et_eq A (ed_ix (d := .str (kind1 d)) (ds := [.str (kind1 d), .int (arg1 d)]) ((ed_var (.next (.next (.next (.next (.here))))) hs (by decide +kernel)).is hkd) ed_int (by rfl)) ed_str (by first | rfl | assumption | decide +kernel) (by first | rfl | assumption | decide +kernel)) : EvT X _ _ H3 _).is (kind_seen d)) (fun z => by cases z) (fun _ => ?_)
        refine go_if (((et_eq A (ed_ix (d := .str (kind1 d)) (ds := [.str (kind1 d), .int (arg1 d)]) ((ed_var (.next (.next (.next (.next (.here))))) hs (by decide +kernel)).is hkd) ed_int (by rfl)) ed_str (by first | rfl | assumption | decide +kernel) (by first | rfl | assumption | decide +kernel)) : EvT X _ _ H3 _).is (kind_shut d)) (fun z => by cases z) (fun _ => ?_)
        have tabs3 : LamX.Tabs [((He.cT X.K ("_law_fits", none)).2, X.env.qual ++ "<lambda>")] H3 := by
          rw [hqual]
          exact tb3
        refine gn_when (tn_said A (by decide) hs (by decide +kernel) TB hcode (.next (.next (.next (.here)))) (.next (.next (.next (.next (.here))))) (LamX.lamS_by (by rw [hs]; decide +kernel)) (.inr (.inr (by decide +kernel))) (.inr (.inr (by decide +kernel))) (by rfl) (fun _ _ _ _ _ => by rfl) (fun _ => by rfl) tabs3 wk3 ok hk2 hee (by omega)) (fun H4 hj => ?_) (fun H4 hj => ?_)
        · obtain ⟨j1, j2, j3, j4⟩ := hj
          rw [hqual] at j3
          refine go_ret ed_bl fun v H5 e5 rv => fin false v H5 (((kA.trans kC).trans j2).trans e5.kn) (tabs_ex j3 e5) ?_ rv
          rw [hfit]
          show (isN (bar h hl2 ky2 d) && fitB h (hallBehind h hl2 d) (doneKey h d ky2) (r.drop (i + 1))) = false
          have : isN (bar h hl2 ky2 d) = false := by simpa using j1.symm
          rw [this, Bool.false_and]
        · obtain ⟨j1, j2, j3, j4⟩ := hj
          rw [hqual] at j3
          have jb : isN (bar h hl2 ky2 d) = true := by simpa using j1.symm
          refine go_nil fun σ H5 e5 ok5 => ⟨_, pss_nil, _, pss_nil, _, ok5, kA, _, _, ⟨(kC.trans j2).trans e5.kn, tabs_ex j3 e5, (j4 rfl).ex e5, done_ok ok hk2 jb, ?_⟩, _, _, _, rfl⟩
          rw [hfit]
          show (isN (bar h hl2 ky2 d) && fitB h (hallBehind h hl2 d) (doneKey h d ky2) (r.drop (i + 1))) = _
          rw [jb, Bool.true_and]
  · rintro H2 e2 nv H' ⟨kA, hl2, ky2, ⟨kB, tb, wk, hk2, hfit⟩, s1, s2, s3, rfl⟩
    refine go_ret ed_bl fun v H4 e4 rv => fin true v H4 ((kA.trans kB).trans e4.kn) (tabs_ex tb e4) ?_ rv
    rw [hfit, List.length_map, List.drop_length]
    rfl
end WK
/-! WKLess -/
set_option Elab.async false
set_option linter.all false
set_option maxRecDepth 100000
set_option maxHeartbeats 1000000
/-! _law_less -/
namespace WK
open PySem PySem.Spec PyProof.Rows L2
section
variable {X : Cx} {k : Nat} {a b : Expr} {env : Nv} {H : Hp} {x : PyData} {ds : List PyData} {pos : Pos}
theorem et_inL (A : Hs X k) (ha : EvD X a env H x) (hb : EvR X b env H ds) (fx : flatD x = true) (fs : ds.all flatD = true) (hm : behindInMarks .In b = false := by rfl) : EvT X (.Compare a [.In] [b] pos) env H (inD x ds) := ⟨fun σ H1 e0 ok Q q =>
  ⟨_, pt_cmpR op_in_seq pe_w pe_w hm, ha.run σ H1 e0 ok _ fun v H2 e2 r2 => hb.run σ H2 (e0.trans e2) (ok.mono e2.t) _ fun l H3 e3 hl => by
    obtain ⟨vs, h1, h2⟩ := hl
    have r3 := r2.mono e3.t
    obtain ⟨e1, e4⟩ := inV_of r3 h2 fs
    exact ⟨l, vs, rfl, .inl (SqL.of h1), by rw [flat_of r3]; exact fx, e4, inV v vs, rfl, by rw [e1]; exact q H3 (e2.trans e3)⟩⟩⟩
end
/-- a comprehension stored in a captured name -/
theorem sw_cell {X : Cx} {sc scope : Scope} {n : Str} {elt : Expr} {gs : List Comprehension} {pos q : Pos} {ln : Nat} (hs : X.env.scope = sc) (h : decide (sc.names.lookup n = some .local) = false) : swapsWith (.ListComp elt gs scope pos) (some (.Name n q)) ln X.env = Pure.pure false := by
  have e : (X.env.kindOf n == some NameKind.local) = false := by
    show (X.env.scope.names.lookup n == some NameKind.local) = false
    rw [hs]
    cases hq : sc.names.lookup n with
    | none => rfl
    | some k =>
      rw [hq] at h
      cases k <;> first
        | rfl
        | (simp at h)
  unfold swapsWith
  show Pure.pure (X.env.blockKind == .function && X.env.kindOf n == some .local && q.line == pos.line && !(scope.names.any fun (m, k) => m == n && (k == .local || k == .cell))) = _
  rw [e, Bool.and_false, Bool.false_and, Bool.false_and]
def neT (num : Int) : PyData → Bool
  | .int i => !decide (i = num)
  | _ => false
theorem ne_map (lot : List Int) (num : Int) : ((zD lot).filter (neT num)).map id = zD (lot.filter fun x => !decide (x = num)) := by
  rw [List.map_id]
  unfold zD
  rw [List.filter_map]
  rfl
def hasZ (l : List Int) (n : Int) : Bool := l.any fun b => b == n
theorem hasZ_iff {l : List Int} {n : Int} : hasZ l n = true ↔ n ∈ l := by
  unfold hasZ
  rw [List.any_eq_true]
  exact ⟨fun ⟨b, h1, h2⟩ => by rw [← eq_of_beq h2]; exact h1, fun h => ⟨n, h, by simp⟩⟩
def sndF : PyData → PyData
  | .tuple [_, x] => x
  | _ => .none
def keepT (keep : Int → Bool) : PyData → Bool
  | .tuple [.int n, .tuple (x :: _)] => keep n || !inD x [.str "seen", .str "shut"]
  | _ => false
theorem kind_in2 (e : Entry) : inD (.str (kindE e)) [.str "seen", .str "shut"] = !e.isDeed := by
  cases e with
  | deed d =>
    cases d
    · show inD (.str "go") [.str "seen", .str "shut"] = false
      decide +kernel
    · show inD (.str "file") [.str "seen", .str "shut"] = false
      decide +kernel
    · show inD (.str "lift") [.str "seen", .str "shut"] = false
      decide +kernel
  | shut l =>
    show inD (.str "shut") [.str "seen", .str "shut"] = true
    decide +kernel
  | seen t lo hi =>
    show inD (.str "seen") [.str "seen", .str "shut"] = true
    decide +kernel
theorem keepT_of (keep : Int → Bool) (n : Int) (e : Entry) : keepT keep (.tuple [.int n, entryD e]) = (keep n || !inD (.str (kindE e)) [.str "seen", .str "shut"]) := by
  rw [entryD_eq]
  rfl
theorem keep_map (keep : Int → Bool) : ∀ (r : List Entry) (n : Int), ((enumF n (r.map entryD)).filter (keepT keep)).map sndF = (subRec keep n r).map entryD
  | [], _ => rfl
  | e :: r, n => by
    have ih := keep_map keep r (n + 1)
    show (List.filter (keepT keep) (.tuple [.int n, entryD e] :: enumF (n + 1) (r.map entryD))).map sndF = (if (keep n || e.isDeed) = true then e :: subRec keep (n + 1) r else subRec keep (n + 1) r).map entryD
    rw [List.filter_cons, keepT_of, kind_in2, Bool.not_not]
    cases keep n || e.isDeed with
    | true =>
      rw [if_pos rfl, if_pos rfl, List.map_cons, ih]
      rfl
    | false =>
      rw [if_neg (by decide), if_neg (by decide), ih]
inductive R_less : List PyData → PyData → Prop
  | mk (r : List Entry) (lot : List Int) (num : Int) (hr : r.length ≤ 12) (hl : lot.length ≤ 100) : R_less [recD r, kD lot, .int num] (recD (subRec (hasZ (lot.filter fun x => !decide (x = num))) 0 r))
theorem sc__law_less : FnScope ((["_law_record", "_law_lot", "_law_number"] : List Str) ++ (["_law_keep", "_law_at", "_law_entry_here"] : List Str)) ["_law_record", "_law_lot", "_law_number"] (defScope (top 117)) := fnScope_by (by decide +kernel)
instance : HasCal "_law_less" 1 ["_law_record", "_law_lot", "_law_number"] (SpD R_less) := ⟨fun P w K mg T => by
  refine Cal.pure T (i := 117) (more := (["_law_keep", "_law_at", "_law_entry_here"] : List Str)) (List.mem_of_getElem? (i := 66) rfl) (by decide +kernel) sc__law_less (fun _ _ _ _ _ _ us hl => match us, hl with | [_, _, _], _ => rfl) (by decide +kernel) (fun ds r h => by cases h <;> rfl) fun X A hs hf ds r h H D hD => ?_
  cases h with
  | mk r lot num hr hl =>
    simp only [nvOf, unM]
    refine go_setL A (el_lc (N := ["_law_record", "_law_lot", "_law_number", "_law_keep", "_law_at", "_law_entry_here"]) (own := [("_law_at", 4)]) (neT num) id A hs (ei_tup (ed_var (.next (.here)) hs (by decide +kernel))) (by rw [zD_len]; omega) rfl (by decide +kernel) (.drop (.drop (.keep (by decide +kernel) (by decide) (.drop (.drop (.drop .nil)))))) (fun d hd => by
      obtain ⟨i, hi, rfl⟩ := mem_zD hd
      exact ⟨_, (.name (.next (.next (.next (.next (.here)))))), fun X A hs => ⟨(ts_one ((et_ne A (ed_var (.next (.next (.next (.next (.here))))) hs (by decide +kernel)) (ed_var (.next (.next (.here))) hs (by decide +kernel)) (by first | rfl | assumption | decide +kernel) (by first | rfl | assumption | decide +kernel)).is (by rw [eqv_int]; rfl))), fun h_1 => (ed_var (.next (.next (.next (.next (.here))))) hs (by decide +kernel))⟩⟩)) (fun _ => (.next (.next (.next (.here))))) (locN hf hs (by decide +kernel)) (fun a H1 hn e1 L1 => ?_) (hs := sw_cell hs (by decide +kernel))
    rw [ne_map] at L1
    have el : (enumD (r.map entryD)).length ≤ 100000 := by
      rw [enumD_len, List.length_map]
      omega
    exact go_outX (ed_tupL A hs (EvL.r (el_lc (N := ["_law_record", "_law_lot", "_law_number", "_law_keep", "_law_at", "_law_entry_here"]) (own := [("_law_at", 4), ("_law_entry_here", 5)]) (keepT (hasZ (lot.filter fun x => !decide (x = num)))) sndF A hs (ei_enum A hs (by decide +kernel) (ed_var .here hs (by decide +kernel))) el rfl (by decide +kernel) (.drop (.drop (.drop (.keep (by decide +kernel) (by decide) (.drop (.drop .nil)))))) (fun d hd => by
      obtain ⟨i, e, hie, rfl⟩ := mem_enumE hd
      exact ⟨_, (.tup (.cons (.name (.next (.next (.next (.next (.here)))))) (.cons (.name (.next (.next (.next (.next (.next (.here))))))) .nil))), fun X A hs => ⟨(ts_one ((et_bool (ew_or ((et_inL A (ed_var (.next (.next (.next (.next (.here))))) hs (by decide +kernel)) (EvV.r (ev_var (.next (.next (.next (.here)))) hs (by decide +kernel)) L1) rfl (flat_zD _)).is (inD_zD _ _)) (fun h_2 => (ew_or1 ((et_nin (ed_ix ((ed_var (.next (.next (.next (.next (.next (.here)))))) hs (by decide +kernel)).is (entryD_eq e)) ed_int (atI_head _ _)) (ed_tup (ea_cons ed_str (ea_cons ed_str ea_nil))) rfl rfl).is rfl))))).is (keepT_of (hasZ (lot.filter fun x => !decide (x = num))) _ _).symm)), fun h_3 => (ed_var (.next (.next (.next (.next (.next (.here)))))) hs (by decide +kernel))⟩⟩)))) (by
      unfold enumD recD
      rw [keep_map]) hD e1⟩
end WK
/-! WKOther -/
set_option Elab.async false
set_option linter.all false
set_option maxRecDepth 100000
set_option maxHeartbeats 1000000
/-! _law_otherwise -/
namespace WK
open PySem PySem.Spec PyProof.Rows L2
theorem sw_none2 {X : Cx} {sc : Scope} {n m : Str} {px py pt pt2 : Pos} {a b : Expr} {kt k2 : Nat} (hs : X.env.scope = sc) (h : decide (sc.names.lookup m = some .local) = false) : swappedStores [.Tuple [.Name n px, .Name m py] kt pt] (.Tuple [a, b] k2 pt2) X.env = Pure.pure none := by
  have h := of_decide_eq_false h
  have k1 : (X.env.kindOf m == some .local) = false := by
    unfold Env.kindOf
    rw [hs]
    cases e : (sc.names.lookup m == some NameKind.local) with
    | true => exact absurd (eq_of_beq e) h
    | false => rfl
  unfold swappedStores
  simp only [pure_bind]
  split
  · rfl
  · split
    · rfl
    · rw [if_pos]
      rw [Bool.or_eq_true]
      refine .inl (bne_iff_ne.mpr fun e => ?_)
      have e2 : ∀ (f : Expr → Option Str), f (.Name m py) = none → (List.filterMap f [.Name n px, .Name m py]).length ≤ 1 := fun f hf => by
        have : [Expr.Name n px, Expr.Name m py] = [.Name n px] ++ [.Name m py] := rfl
        rw [this, List.filterMap_append, List.filterMap_cons_none (l := []) hf, List.filterMap_nil, List.append_nil]
        exact List.length_filterMap_le _ _
      exact absurd (Nat.le_trans (Nat.le_of_eq e.symm) (e2 _ (by simp only [k1, Bool.false_and]; rfl))) (by show ¬ 2 ≤ 1; decide)
def seenT : PyData → Bool
  | .tuple [_, .tuple (x :: _)] => PyData.eqv x (.str "seen")
  | _ => false
theorem seenT_of (n : Int) (e : Entry) : seenT (.tuple [.int n, entryD e]) = PyData.eqv (.str (kindE e)) (.str "seen") := by
  rw [entryD_eq]
  rfl
theorem shaped_kindE (e : Entry) : SeqAt.shaped (.str (kindE e)) = true := by
  cases e with
  | deed d => exact shaped_kind d
  | shut l =>
    show SeqAt.shaped (.str "shut") = true
    decide +kernel
  | seen t lo hi =>
    show SeqAt.shaped (.str "seen") = true
    decide +kernel
theorem seen_mem {r : List Entry} {d : PyData} (h : d ∈ ((enumD (r.map entryD)).filter seenT).map fstF) : ∃ (s : Nat) (t lo hi : Int), d = .int (s : Int) ∧ r[s]? = some (.seen t lo hi) := by
  obtain ⟨y, hy, rfl⟩ := List.mem_map.mp h
  obtain ⟨h1, h2⟩ := List.mem_filter.mp hy
  obtain ⟨i, e, hie, rfl⟩ := mem_enumE h1
  rw [seenT_of] at h2
  cases e with
  | deed d =>
    have h2 : PyData.eqv (.str (kind1 d)) (.str "seen") = true := h2
    rw [kind_seen] at h2
    cases h2
  | shut l =>
    have h2 : PyData.eqv (.str "shut") (.str "seen") = true := h2
    rw [shut_seen] at h2
    cases h2
  | seen t lo hi => exact ⟨i, t, lo, hi, rfl, hie⟩
def boxT (key : List Int) : PyData → Bool := fun d => inB (unB d) key
theorem box_none {bs : List (List (Int × Int))} {key : List Int} (h : ∀ b ∈ bs, inB b key = false) : ((bs.map bD).filter (boxT key)).map id = [] := by
  rw [List.map_id, List.filter_eq_nil_iff]
  intro d hd
  obtain ⟨b, hb, rfl⟩ := List.mem_map.mp hd
  show ¬ inB (unB (bD b)) key = true
  rw [unB_bD, h b hb]
  decide
theorem mem_boxes {bs : List (List (Int × Int))} {d : PyData} (h : d ∈ bs.map bD) : ∃ b, b ∈ bs ∧ d = bD b := by
  obtain ⟨b, hb, rfl⟩ := List.mem_map.mp h
  exact ⟨b, hb, rfl⟩
theorem eqv_bool (a b : Bool) : PyData.eqv (.bool a) (.bool b) = (a == b) := by cases a <;> cases b <;> rfl
theorem box_lay (bs : List (List (Int × Int))) : SeqAt.shaped (.tuple (bs.map bD)) = true := ((lay_tup (n := 2) fun d hd => by
  obtain ⟨b, _, rfl⟩ := mem_boxes hd
  exact lay_box).le (by decide)).shaped
theorem clash_len {h : Ho} {hall : Int} {r : List Entry} {lot : List Int} (hc : clashOf h hall r = some lot) : lot.length ≤ (entriesOf r).length := by
  unfold clashOf at hc
  split at hc
  · cases hc
  · obtain ⟨m, hm, hf⟩ := List.exists_of_findSome?_eq_some hc
    have h1 := (lots_mem.mp (List.mem_of_find?_eq_some hf)).1
    have h2 := List.mem_range.mp hm
    omega
theorem boxes_len {h : Ho} (ok : HoOk h) (t2 : h.teeth ≤ 2) {hall : Int} {r : List Entry} : (boxesOf h hall r).length ≤ 100000 := by
  have t1 := ok.teeth
  have hf : (fitKeys h hall r).length ≤ 49 := by
    have h1 := (agAll_keys h hall r (allKeys h.teeth.toNat)).length_le
    rw [List.length_map, allKeys_len] at h1
    have h7 : 7 ^ h.teeth.toNat ≤ 49 := by
      have : h.teeth.toNat = 1 ∨ h.teeth.toNat = 2 := by omega
      rcases this with e | e <;> rw [e] <;> decide
    have h2 := List.length_filter_le (fun p : List Int × List Int => p.2.isEmpty) (agAll h hall r (allKeys h.teeth.toNat))
    unfold fitKeys
    rw [List.length_map]
    omega
  unfold boxesOf
  rw [(greatest_perm _).length_eq]
  have h3 := rows_len (fitKeys h hall r) (fitKeys h hall r)
  have h4 : (fitKeys h hall r).length * (fitKeys h hall r).length ≤ 49 * 49 := Nat.mul_le_mul hf hf
  unfold gbList
  omega
def SpOther : Sp := fun vs H Q _ => ∃ p vh vk vr h hall key r m, vs = [V.ref p, vh, V.int hall, vk, vr] ∧ Rp H vh (hoD h) ∧ Rp H vk (kD key) ∧ Rp H vr (recD r) ∧ HoOk h ∧ h.teeth ≤ 2 ∧ HallOk h hall ∧ KeyOk h.teeth key ∧ RecOk h hall r ∧ r.length ≤ 12 ∧ fitB h hall key r = true ∧ Pen H p (m + 1) ∧ ∀ H', Kp [p] H H' → Pen H' p m → Q (.bl true) H'
theorem len__law_otherwise : ∀ vs H Q E, SpOther vs H Q E → vs.length = (["_law_pen_here", "_law_house_here", "_law_hall", "_law_key_here", "_law_record"] : List Str).length := fun vs H Q E ⟨_, _, _, _, _, _, _, _, _, h, _⟩ => by rw [h]; rfl
theorem sc__law_otherwise : FnScope ((["_law_pen_here", "_law_house_here", "_law_hall", "_law_key_here", "_law_record"] : List Str) ++ (["_law_at", "_law_spot", "_law_word_here", "_law_tooth", "_law_low", "_law_high", "_law_bent", "_law_other", "_law_boxes", "_law_lot", "_law_some", "_law_number", "_law_entry_here", "_law_box_here"] : List Str)) ["_law_pen_here", "_law_house_here", "_law_hall", "_law_key_here", "_law_record"] (defScope (top 116)) := fnScope_by (by decide +kernel)
instance : HasCal "_law_otherwise" 13 ["_law_pen_here", "_law_house_here", "_law_hall", "_law_key_here", "_law_record"] SpOther := ⟨fun P w K mg T => by
  refine Cal.mk' T (i := 116) (N := (["_law_pen_here", "_law_house_here", "_law_hall", "_law_key_here", "_law_record"] : List Str) ++ (["_law_at", "_law_spot", "_law_word_here", "_law_tooth", "_law_low", "_law_high", "_law_bent", "_law_other", "_law_boxes", "_law_lot", "_law_some", "_law_number", "_law_entry_here", "_law_box_here"] : List Str)) (List.mem_of_getElem? (i := 65) rfl) (by decide +kernel) sc__law_otherwise (fun _ _ _ _ _ _ us hl => match us, hl with | [_, _, _, _, _], _ => rfl) len__law_otherwise fun X A hs hN hf vs H Q E h => ?_
  obtain ⟨p, vh, vk, vr, h, hall, key, r, m, rfl, r1, r2, r3, ok, t2, hh, hk, hr, hl, hfit, pen, q⟩ := h
  refine go_beginS (ss := [.v (.ref p), .d (hoD h), .d (.int hall), .d (kD key), .d (recD r)]) hs hN (.cons rfl (.cons r1 (.cons (.int hall) (.cons r2 (.cons r3 .nil))))) rfl (by decide +kernel) ?_
  simp only [nvS, unM]
  have M1 : p ∈ [p] := List.mem_singleton.mpr rfl
  have fin : ∀ v H', Rp H' v (.bool true) → Kp [p] H H' → Pen H' p m → Q v H' := fun v H' rv k1 p1 => by
    cases rv
    exact q H' k1 p1
  have el : (enumD (r.map entryD)).length ≤ 100000 := by
    rw [enumD_len, List.length_map]
    omega
  refine (go_setLc (N := ["_law_pen_here", "_law_house_here", "_law_hall", "_law_key_here", "_law_record", "_law_at", "_law_spot", "_law_word_here", "_law_tooth", "_law_low", "_law_high", "_law_bent", "_law_other", "_law_boxes", "_law_lot", "_law_some", "_law_number", "_law_entry_here", "_law_box_here"]) (own := [("_law_number", 16), ("_law_entry_here", 17)]) seenT fstF A hs (ei_enum A hs (by decide +kernel) (ed_var (.next (.next (.next (.next (.here))))) hs (by decide +kernel))) el rfl (by decide +kernel) (.drop (.drop (.drop (.drop (.drop (.drop (.drop (.drop (.drop (.drop (.drop (.drop (.drop (.drop (.drop (.drop (.drop (.drop (.drop .nil))))))))))))))))))) (fun d hd => by
      obtain ⟨i, e, hie, rfl⟩ := mem_enumE hd
      exact ⟨_, (.tup (.cons (.name (.next (.next (.next (.next (.next (.next (.next (.next (.next (.next (.next (.next (.next (.next (.next (.next (.here)))))))))))))))))) (.cons (.name (.next (.next (.next (.next (.next (.next (.next (.next (.next (.next (.next (.next (.next (.next (.next (.next (.next (.here))))))))))))))))))) .nil))), fun X A hs => ⟨(ts_one ((et_eq A (ed_ix ((ed_var (.next (.next (.next (.next (.next (.next (.next (.next (.next (.next (.next (.next (.next (.next (.next (.next (.next (.here)))))))))))))))))) hs (by decide +kernel)).is (entryD_eq e)) ed_int (atI_head _ _)) ed_str (shaped_kindE e) (by decide +kernel)).is (seenT_of _ _).symm)), fun h_1 => (ed_var (.next (.next (.next (.next (.next (.next (.next (.next (.next (.next (.next (.next (.next (.next (.next (.next (.here))))))))))))))))) hs (by decide +kernel))⟩⟩) (fun _ => (.next (.next (.next (.next (.next (.here))))))) (by decide +kernel) fun at_ H1 n1 e1 L1 => ?_)
  have pen1 := pen.ex e1
  have nat : at_ ≠ p := fun z => by
    rw [z] at n1
    exact pen.not n1
  have hmem : ∀ d ∈ ((enumD (r.map entryD)).filter seenT).map fstF, ∃ (s : Nat) (t lo hi : Int), d = .int (s : Int) ∧ r[s]? = some (.seen t lo hi) := fun d hd => seen_mem hd
  have hln : (((enumD (r.map entryD)).filter seenT).map fstF).length ≤ 12 := by
    have h1 := filt_len (enumD (r.map entryD)) seenT fstF
    have h2 : (enumD (r.map entryD)).length = r.length := by rw [enumD_len, List.length_map]
    omega
  generalize ((enumD (r.map entryD)).filter seenT).map fstF = ats at L1 hmem hln
  have sxa : SeqAt.shaped (.list ats) = true := ((lay_list (n := 0) fun d hd => by
    obtain ⟨s, _, _, _, rfl, _⟩ := hmem d hd
    exact lay_int).le (by decide)).shaped
  refine go_when (et_eqL A (EvV.r (ev_var (.next (.next (.next (.next (.next (.here)))))) hs (by decide +kernel)) L1) (EvL.r (el_lst ea_nil)) sxa (by decide)) (fun _ => ?_) (fun ht => ?_)
  · exact go_ret ed_bl fun v H2 e2 rv => fin v H2 rv (e1.trans e2).kp ((pen1.ex e2).le (by omega))
  rw [eqv_nilL] at ht
  have h1l : 1 ≤ ats.length := by
    cases ats with
    | nil => cases ht
    | cons _ _ => simp
  refine gm_set (M := [p]) A (em_pickL (J := fun d H' => (∃ (s : Nat) (t lo hi : Int), d = .int (s : Int) ∧ r[s]? = some (.seen t lo hi)) ∧ Pen H' p m) A hs (ev_var .here hs (by decide +kernel)) (ev_var (.next (.next (.next (.next (.next (.here)))))) hs (by decide +kernel)) L1 nat h1l (by omega) pen1 M1 fun d H' _ p' hd => ⟨hmem d hd, p'⟩) (fun _ => (.next (.next (.next (.next (.next (.next (.here)))))))) (locN hf hs (by decide +kernel)) fun d H2 k2 hj => ?_
  obtain ⟨⟨s, t, lo, hi, rfl, hrs⟩, pen2⟩ := hj
  have kA : Kp [p] H H2 := e1.kp.trans k2
  have fin2 : ∀ v H', Rp H' v (.bool true) → Ex H2 H' → Q v H' := fun v H' rv e => fin v H' rv (kA.trans e.kp) (pen2.ex e)
  have hsl : s < r.length := (List.getElem?_eq_some_iff.mp hrs).1
  have hee := rec_at hrs hr
  have hat : atI (r.map entryD) (s : Int) = some (.tuple [.str "seen", .int t, .int lo, .int hi]) := atI_of (by omega) (by rw [Int.toNat_natCast, List.getElem?_map, hrs]; rfl)
  refine go_unp A (ed_ix (ed_var (.next (.next (.next (.next (.here))))) hs (by decide +kernel)) (ed_var (.next (.next (.next (.next (.next (.next (.here))))))) hs (by decide +kernel)) hat) (.tup (.cons (.name (.next (.next (.next (.next (.next (.next (.next (.here))))))))) (.cons (.name (.next (.next (.next (.next (.next (.next (.next (.next (.here)))))))))) (.cons (.name (.next (.next (.next (.next (.next (.next (.next (.next (.next (.here))))))))))) (.cons (.name (.next (.next (.next (.next (.next (.next (.next (.next (.next (.next (.here)))))))))))) .nil))))) (fun q hq => locN hf hs (by simp at hq; rcases hq with rfl | rfl | rfl | rfl <;> decide +kernel)) ?_
  refine go_when (et_bool (ew_and (et_eq A (ed_var (.next (.next (.next (.next (.next (.next (.next (.next (.next (.here)))))))))) hs (by decide +kernel)) ed_int (by first | rfl | assumption | decide +kernel) (by first | rfl | assumption | decide +kernel)) (fun h_2 => (ew_and1 (et_eq A (ed_var (.next (.next (.next (.next (.next (.next (.next (.next (.next (.next (.here))))))))))) hs (by decide +kernel)) ed_int (by first | rfl | assumption | decide +kernel) (by first | rfl | assumption | decide +kernel)))))) (fun _ => ?_) (fun ht4 => ?_)
  · exact go_ret ed_bl fun v H3 e3 rv => fin2 v H3 rv e3
  have hlh := hee.2
  obtain ⟨lo2, hi2, hgap, hdis, hway⟩ : ∃ lo2 hi2 : Int, GapOk (lo2, hi2) ∧ (hi2 < lo ∨ hi < lo2) ∧ ((0 < lo ∧ lo2 = 0 ∧ hi2 = lo - 1) ∨ (¬ 0 < lo ∧ lo2 = hi + 1 ∧ hi2 = 6)) := by
    obtain ⟨g1, g2, g3⟩ : 0 ≤ lo ∧ lo ≤ hi ∧ hi ≤ 6 := hlh
    by_cases h0 : 0 < lo
    · exact ⟨0, lo - 1, by show 0 ≤ (0 : Int) ∧ (0 : Int) ≤ lo - 1 ∧ lo - 1 ≤ 6; omega, .inl (by omega), .inl ⟨h0, rfl, rfl⟩⟩
    · have e0 : lo = 0 := by omega
      have : hi ≠ 6 := fun z => by
        rw [eqv_int, eqv_int, e0, z] at ht4
        cases ht4
      exact ⟨hi + 1, 6, by show 0 ≤ hi + 1 ∧ hi + 1 ≤ (6 : Int) ∧ (6 : Int) ≤ 6; omega, .inr (by omega), .inr ⟨h0, rfl, rfl⟩⟩
  refine go_set A (ed_cat (ds := [.str "seen", .int t]) (ys := [.int lo2, .int hi2]) (ed_tup (ea_cons (ed_var (.next (.next (.next (.next (.next (.next (.next (.here)))))))) hs (by decide +kernel)) (ea_cons (ed_var (.next (.next (.next (.next (.next (.next (.next (.next (.here))))))))) hs (by decide +kernel)) ea_nil))) ?_ (by show 4 ≤ 100000; decide)) (.next (.next (.next (.next (.next (.next (.next (.next (.next (.next (.next (.here)))))))))))) (locN hf hs (by decide +kernel)) ?_
  · rcases hway with ⟨h0, rfl, rfl⟩ | ⟨h0, rfl, rfl⟩
    · exact ed_ifT (et_gt (ed_var (.next (.next (.next (.next (.next (.next (.next (.next (.next (.here)))))))))) hs (by decide +kernel)) ed_int) (decide_eq_true h0) (ed_tup (ea_cons ed_int (ea_cons (ed_sub (ed_var (.next (.next (.next (.next (.next (.next (.next (.next (.next (.here)))))))))) hs (by decide +kernel)) ed_int) ea_nil)))
    · exact ed_ifF (et_gt (ed_var (.next (.next (.next (.next (.next (.next (.next (.next (.next (.here)))))))))) hs (by decide +kernel)) ed_int) (decide_eq_false h0) (ed_tup (ea_cons (ed_add (ed_var (.next (.next (.next (.next (.next (.next (.next (.next (.next (.next (.here))))))))))) hs (by decide +kernel)) ed_int) (ea_cons ed_int ea_nil)))
  have hset : ((r.map entryD).take s ++ [.tuple [.str "seen", .int t, .int lo2, .int hi2]]) ++ (r.map entryD).drop (s + 1) = (r.set s (.seen t lo2 hi2)).map entryD := by
    rw [List.set_eq_take_append_cons_drop, if_pos hsl, List.map_append, List.map_cons, List.map_take, List.map_drop]
    rw [List.append_assoc]
    rfl
  have c1 : cutD (r.map entryD) none (some (s : Int)) = (r.map entryD).take s := cut_to _ s
  have c2 : cutD (r.map entryD) (some ((s : Int) + 1)) none = (r.map entryD).drop (s + 1) := cut_from _ (s + 1)
  refine go_set A ((ed_cat (ed_cat (ed_slice (ed_var (.next (.next (.next (.next (.here))))) hs (by decide +kernel)) eo_none (eo_some (ed_var (.next (.next (.next (.next (.next (.next (.here))))))) hs (by decide +kernel)))) (ed_tup (ea_cons (ed_var (.next (.next (.next (.next (.next (.next (.next (.next (.next (.next (.next (.here)))))))))))) hs (by decide +kernel)) ea_nil)) (by rw [c1, List.length_take, List.length_map]; simp only [List.length_cons, List.length_nil]; omega)) (ed_slice (ed_var (.next (.next (.next (.next (.here))))) hs (by decide +kernel)) (eo_some (ed_add (ed_var (.next (.next (.next (.next (.next (.next (.here))))))) hs (by decide +kernel)) ed_int)) eo_none) (by rw [c1, c2, List.length_append, List.length_take, List.length_drop, List.length_map]; simp only [List.length_cons, List.length_nil]; omega)).is (x := recD (r.set s (.seen t lo2 hi2))) (by
    rw [c1, c2]
    exact congrArg PyData.tuple hset)) (.next (.next (.next (.next (.next (.next (.next (.next (.next (.next (.next (.next (.here))))))))))))) (locN hf hs (by decide +kernel)) ?_
  have hr2 : RecOk h hall (r.set s (.seen t lo2 hi2)) := bent_rec hgap hrs hr
  have hl2 : (r.set s (.seen t lo2 hi2)).length ≤ 12 := by rw [List.length_set]; exact hl
  have hnf : fitB h hall key (r.set s (.seen t lo2 hi2)) = false := bent_fit hdis hrs hfit
  clear hset c1 c2 hway hdis hgap
  generalize r.set s (.seen t lo2 hi2) = r2 at hr2 hl2 hnf ⊢
  have hbx : ∀ b ∈ boxesOf h hall r2, inB b key = false := fun b hb => by
    cases hin : inB b key with
    | false => rfl
    | true =>
      have := (boxes_iff ok hk).mp ⟨b, hb, hin⟩
      rw [hnf] at this
      cases this
  have hbl : (boxesOf h hall r2).length ≤ 100000 := boxes_len ok t2
  have hcb := clash_boxes ok (hall := hall) (r := r2)
  cases hc : clashOf h hall r2 with
  | none =>
    have hne : boxesOf h hall r2 ≠ [] := hcb.mp hc
    refine go_unp A (ed_tup (ea_cons ((ed_call A hs (ea_cons (ed_var (.next (.here)) hs (by decide +kernel)) (ea_cons (ed_var (.next (.next (.here))) hs (by decide +kernel)) (ea_cons (ed_var (.next (.next (.next (.next (.next (.next (.next (.next (.next (.next (.next (.next (.here))))))))))))) hs (by decide +kernel)) ea_nil))) (R_fitting.mk h hall r2 ok t2 hh hr2 hl2)).is (x := .tuple ((boxesOf h hall r2).map bD)) rfl) (ea_cons (((ed_call A hs (ea_cons (ed_var (.next (.here)) hs (by decide +kernel)) (ea_cons (ed_var (.next (.next (.here))) hs (by decide +kernel)) (ea_cons (ed_var (.next (.next (.next (.next (.next (.next (.next (.next (.next (.next (.next (.next (.here))))))))))))) hs (by decide +kernel)) ea_nil))) (R_clash.mk h hall r2 ok t2 hh hr2 hl2)).is (by rw [hc] <;> rfl)) : EvD X _ _ _ (optZ none)) ea_nil))) (.tup (.cons (.name (.next (.next (.next (.next (.next (.next (.next (.next (.next (.next (.next (.next (.next (.here))))))))))))))) (.cons (.name (.next (.next (.next (.next (.next (.next (.next (.next (.next (.next (.next (.next (.next (.next (.here)))))))))))))))) .nil))) (fun q hq => locN hf hs (by simp at hq; rcases hq with rfl | rfl <;> decide +kernel)) ?_ (hw := sw_none2 hs (by decide +kernel))
    refine go_when (et_bool (ew_or (et_neL A (EvL.r (el_lc (N := ["_law_pen_here", "_law_house_here", "_law_hall", "_law_key_here", "_law_record", "_law_at", "_law_spot", "_law_word_here", "_law_tooth", "_law_low", "_law_high", "_law_bent", "_law_other", "_law_boxes", "_law_lot", "_law_some", "_law_number", "_law_entry_here", "_law_box_here"]) (own := [("_law_box_here", 18)]) (boxT key) id A hs (ei_tup (ed_var (.next (.next (.next (.next (.next (.next (.next (.next (.next (.next (.next (.next (.next (.here)))))))))))))) hs (by decide +kernel))) (by rw [List.length_map]; exact hbl) rfl (by decide +kernel) (.drop (.drop (.drop (.keep (by decide +kernel) (by decide) (.drop (.drop (.drop (.drop (.drop (.drop (.drop (.drop (.drop (.drop (.drop (.drop (.drop (.drop (.drop .nil))))))))))))))))))) (fun d hd => by
      obtain ⟨b, hb, rfl⟩ := mem_boxes hd
      exact ⟨_, (.name (.next (.next (.next (.next (.next (.next (.next (.next (.next (.next (.next (.next (.next (.next (.next (.next (.next (.next (.here)))))))))))))))))))), fun X A hs => ⟨(ts_one (et_val ((ed_call A hs (ea_cons (ed_var (.next (.next (.next (.next (.next (.next (.next (.next (.next (.next (.next (.next (.next (.next (.next (.next (.next (.next (.here))))))))))))))))))) hs (by decide +kernel)) (ea_cons (ed_var (.next (.next (.next (.here)))) hs (by decide +kernel)) ea_nil)) (R_lin.mk b key (by have := (boxes_each ok hb).1; omega))).is (by show PyData.bool (inB b key) = .bool (inB (unB (bD b)) key); rw [unB_bD])))), fun h_3 => (ed_var (.next (.next (.next (.next (.next (.next (.next (.next (.next (.next (.next (.next (.next (.next (.next (.next (.next (.next (.here))))))))))))))))))) hs (by decide +kernel))⟩⟩))) (EvL.r (el_lst ea_nil)) (by rw [box_none hbx]; decide +kernel) (by decide)) fun _ => ew_or1 (et_ne A (ed_is (ed_var (.next (.next (.next (.next (.next (.next (.next (.next (.next (.next (.next (.next (.next (.next (.here))))))))))))))) hs (by decide +kernel)) ed_non) (ed_ne A (ed_var (.next (.next (.next (.next (.next (.next (.next (.next (.next (.next (.next (.next (.next (.here)))))))))))))) hs (by decide +kernel)) (ed_tup ea_nil) (box_lay _) (by decide)) rfl rfl))) (fun ht => ?_) (fun _ => ?_)
    · rw [box_none hbx, eqv_nilT, eqv_bool] at ht
      have : ((boxesOf h hall r2).map bD).isEmpty = false := by
        cases hbs : boxesOf h hall r2 with
        | nil => exact absurd hbs hne
        | cons _ _ => rfl
      rw [this] at ht
      cases ht
    · refine go_when (et_is (ed_var (.next (.next (.next (.next (.next (.next (.next (.next (.next (.next (.next (.next (.next (.next (.here))))))))))))))) hs (by decide +kernel)) ed_non) (fun _ => ?_) (fun z => by cases z)
      exact go_ret ed_bl fun v H3 e3 rv => fin2 v H3 rv e3
  | some lot =>
    have hnil : boxesOf h hall r2 = [] := by
      cases hbs : boxesOf h hall r2 with
      | nil => rfl
      | cons _ _ =>
        rw [hcb.mpr (by rw [hbs]; exact List.cons_ne_nil _ _)] at hc
        cases hc
    obtain ⟨cs1, cs2, cs3, cs4⟩ := clash_some hc
    have hll : lot.length ≤ 12 := by
      have h1 := clash_len hc
      have h2 : (entriesOf r2).length ≤ r2.length := entries_len r2 0
      omega
    refine go_unp A (ed_tup (ea_cons ((ed_call A hs (ea_cons (ed_var (.next (.here)) hs (by decide +kernel)) (ea_cons (ed_var (.next (.next (.here))) hs (by decide +kernel)) (ea_cons (ed_var (.next (.next (.next (.next (.next (.next (.next (.next (.next (.next (.next (.next (.here))))))))))))) hs (by decide +kernel)) ea_nil))) (R_fitting.mk h hall r2 ok t2 hh hr2 hl2)).is (x := .tuple ((boxesOf h hall r2).map bD)) rfl) (ea_cons (((ed_call A hs (ea_cons (ed_var (.next (.here)) hs (by decide +kernel)) (ea_cons (ed_var (.next (.next (.here))) hs (by decide +kernel)) (ea_cons (ed_var (.next (.next (.next (.next (.next (.next (.next (.next (.next (.next (.next (.next (.here))))))))))))) hs (by decide +kernel)) ea_nil))) (R_clash.mk h hall r2 ok t2 hh hr2 hl2)).is (by rw [hc] <;> rfl)) : EvD X _ _ _ (kD lot)) ea_nil))) (.tup (.cons (.name (.next (.next (.next (.next (.next (.next (.next (.next (.next (.next (.next (.next (.next (.here))))))))))))))) (.cons (.name (.next (.next (.next (.next (.next (.next (.next (.next (.next (.next (.next (.next (.next (.next (.here)))))))))))))))) .nil))) (fun q hq => locN hf hs (by simp at hq; rcases hq with rfl | rfl <;> decide +kernel)) ?_ (hw := sw_none2 hs (by decide +kernel))
    refine go_when (et_bool (ew_or (et_neL A (EvL.r (el_lc (N := ["_law_pen_here", "_law_house_here", "_law_hall", "_law_key_here", "_law_record", "_law_at", "_law_spot", "_law_word_here", "_law_tooth", "_law_low", "_law_high", "_law_bent", "_law_other", "_law_boxes", "_law_lot", "_law_some", "_law_number", "_law_entry_here", "_law_box_here"]) (own := [("_law_box_here", 18)]) (boxT key) id A hs (ei_tup (ed_var (.next (.next (.next (.next (.next (.next (.next (.next (.next (.next (.next (.next (.next (.here)))))))))))))) hs (by decide +kernel))) (by rw [List.length_map]; exact hbl) rfl (by decide +kernel) (.drop (.drop (.drop (.keep (by decide +kernel) (by decide) (.drop (.drop (.drop (.drop (.drop (.drop (.drop (.drop (.drop (.drop (.drop (.drop (.drop (.drop (.drop .nil))))))))))))))))))) (fun d hd => by
      obtain ⟨b, hb, rfl⟩ := mem_boxes hd
      exact ⟨_, (.name (.next (.next (.next (.next (.next (.next (.next (.next (.next (.next (.next (.next (.next (.next (.next (.next (.next (.next (.here)))))))))))))))))))), fun X A hs => ⟨(ts_one (et_val ((ed_call A hs (ea_cons (ed_var (.next (.next (.next (.next (.next (.next (.next (.next (.next (.next (.next (.next (.next (.next (.next (.next (.next (.next (.here))))))))))))))))))) hs (by decide +kernel)) (ea_cons (ed_var (.next (.next (.next (.here)))) hs (by decide +kernel)) ea_nil)) (R_lin.mk b key (by have := (boxes_each ok hb).1; omega))).is (by show PyData.bool (inB b key) = .bool (inB (unB (bD b)) key); rw [unB_bD])))), fun h_4 => (ed_var (.next (.next (.next (.next (.next (.next (.next (.next (.next (.next (.next (.next (.next (.next (.next (.next (.next (.next (.here))))))))))))))))))) hs (by decide +kernel))⟩⟩))) (EvL.r (el_lst ea_nil)) (by rw [box_none hbx]; decide +kernel) (by decide)) fun _ => ew_or1 (et_ne A (ed_is (ed_var (.next (.next (.next (.next (.next (.next (.next (.next (.next (.next (.next (.next (.next (.next (.here))))))))))))))) hs (by decide +kernel)) ed_non) (ed_ne A (ed_var (.next (.next (.next (.next (.next (.next (.next (.next (.next (.next (.next (.next (.next (.here)))))))))))))) hs (by decide +kernel)) (ed_tup ea_nil) (box_lay _) (by decide)) rfl rfl))) (fun ht => ?_) (fun _ => ?_)
    · rw [box_none hbx, eqv_nilT, eqv_bool, hnil] at ht
      cases ht
    · refine go_when (et_is (ed_var (.next (.next (.next (.next (.next (.next (.next (.next (.next (.next (.next (.next (.next (.next (.here))))))))))))))) hs (by decide +kernel)) ed_non) (fun z => by cases z) (fun _ => ?_)
      have el2 : (enumD (r2.map entryD)).length ≤ 100000 := by
        rw [enumD_len, List.length_map]
        omega
      refine go_set A ((ed_tupL A hs (EvL.r (el_lc (N := ["_law_pen_here", "_law_house_here", "_law_hall", "_law_key_here", "_law_record", "_law_at", "_law_spot", "_law_word_here", "_law_tooth", "_law_low", "_law_high", "_law_bent", "_law_other", "_law_boxes", "_law_lot", "_law_some", "_law_number", "_law_entry_here", "_law_box_here"]) (own := [("_law_number", 16), ("_law_entry_here", 17)]) (keepT (hasZ lot)) sndF A hs (ei_enum A hs (by decide +kernel) (ed_var (.next (.next (.next (.next (.next (.next (.next (.next (.next (.next (.next (.next (.here))))))))))))) hs (by decide +kernel))) el2 rfl (by decide +kernel) (.drop (.drop (.drop (.drop (.drop (.drop (.drop (.drop (.drop (.drop (.drop (.drop (.drop (.drop (.keep (by decide +kernel) (by decide) (.drop (.drop (.drop (.drop .nil))))))))))))))))))) (fun d hd => by
      obtain ⟨i, e, hie, rfl⟩ := mem_enumE hd
      exact ⟨_, (.tup (.cons (.name (.next (.next (.next (.next (.next (.next (.next (.next (.next (.next (.next (.next (.next (.next (.next (.next (.here)))))))))))))))))) (.cons (.name (.next (.next (.next (.next (.next (.next (.next (.next (.next (.next (.next (.next (.next (.next (.next (.next (.next (.here))))))))))))))))))) .nil))), fun X A hs => ⟨(ts_one ((et_bool (ew_or ((et_in (ed_var (.next (.next (.next (.next (.next (.next (.next (.next (.next (.next (.next (.next (.next (.next (.next (.next (.here))))))))))))))))) hs (by decide +kernel)) (ed_var (.next (.next (.next (.next (.next (.next (.next (.next (.next (.next (.next (.next (.next (.next (.here))))))))))))))) hs (by decide +kernel)) rfl (flat_zD _)).is (inD_zD _ _)) (fun h_5 => (ew_or1 ((et_nin (ed_ix ((ed_var (.next (.next (.next (.next (.next (.next (.next (.next (.next (.next (.next (.next (.next (.next (.next (.next (.next (.here)))))))))))))))))) hs (by decide +kernel)).is (entryD_eq e)) ed_int (atI_head _ _)) (ed_tup (ea_cons ed_str (ea_cons ed_str ea_nil))) rfl rfl).is rfl))))).is (keepT_of (hasZ lot) _ _).symm)), fun h_6 => (ed_var (.next (.next (.next (.next (.next (.next (.next (.next (.next (.next (.next (.next (.next (.next (.next (.next (.next (.here)))))))))))))))))) hs (by decide +kernel))⟩⟩)))).is (x := recD (subRec (hasZ lot) 0 r2)) (by
        unfold enumD recD
        rw [keep_map])) (.next (.next (.next (.next (.next (.next (.next (.next (.next (.next (.next (.next (.next (.next (.next (.here)))))))))))))))) (locN hf hs (by decide +kernel)) ?_
      have hs1 : boxesOf h hall (subRec (hasZ lot) 0 r2) = [] := clash_alone ok hc (hasZ lot) fun x hx => hasZ_iff.mpr hx
      have hs2 : RecOk h hall (subRec (hasZ lot) 0 r2) := sub_rec _ r2 0 hall hr2
      have hs3 : (subRec (hasZ lot) 0 r2).length ≤ 12 := Nat.le_trans (sub_len _ r2 0) hl2
      refine go_when (et_ne A ((ed_call A hs (ea_cons (ed_var (.next (.here)) hs (by decide +kernel)) (ea_cons (ed_var (.next (.next (.here))) hs (by decide +kernel)) (ea_cons (ed_var (.next (.next (.next (.next (.next (.next (.next (.next (.next (.next (.next (.next (.next (.next (.next (.here)))))))))))))))) hs (by decide +kernel)) ea_nil))) (R_fitting.mk h hall _ ok t2 hh hs2 hs3)).is (x := .tuple []) (by show PyData.tuple ((boxesOf h hall (subRec (hasZ lot) 0 r2)).map bD) = _; rw [hs1]; rfl)) (ed_tup ea_nil) (by decide +kernel) (by decide +kernel)) (fun z => by cases z) (fun _ => ?_)
      have hless : ∀ i ∈ lot, (!PyData.eqv (.tuple ((boxesOf h hall (subRec (hasZ (lot.filter fun x => !decide (x = i))) 0 r2)).map bD)) (.tuple [])) = true := fun i hi => by
        rw [eqv_nilT]
        have := clash_less ok hc hi (hasZ (lot.filter fun x => !decide (x = i))) fun x hx => by
          obtain ⟨z1, z2⟩ := List.mem_filter.mp (hasZ_iff.mp hx)
          exact ⟨z1, by simpa using z2⟩
        cases hbs : boxesOf h hall (subRec (hasZ (lot.filter fun x => !decide (x = i))) 0 r2) with
        | nil => exact absurd hbs this
        | cons _ _ => rfl
      exact go_ret (ed_all A hs (EvL.r (el_lc (N := ["_law_pen_here", "_law_house_here", "_law_hall", "_law_key_here", "_law_record", "_law_at", "_law_spot", "_law_word_here", "_law_tooth", "_law_low", "_law_high", "_law_bent", "_law_other", "_law_boxes", "_law_lot", "_law_some", "_law_number", "_law_entry_here", "_law_box_here"]) (own := [("_law_number", 16)]) (fun _ => true) (fun _ => .bool true) A hs (ei_tup (ed_var (.next (.next (.next (.next (.next (.next (.next (.next (.next (.next (.next (.next (.next (.next (.here))))))))))))))) hs (by decide +kernel))) (by rw [zD_len]; omega) rfl (by decide +kernel) (.drop (.keep (by decide +kernel) (by decide) (.keep (by decide +kernel) (by decide) (.drop (.drop (.drop (.drop (.drop (.drop (.drop (.drop (.drop (.keep (by decide +kernel) (by decide) (.drop (.keep (by decide +kernel) (by decide) (.drop (.drop (.drop (.drop .nil))))))))))))))))))) (fun d hd => by
      obtain ⟨i, hi, rfl⟩ := mem_zD hd
      exact ⟨_, (.name (.next (.next (.next (.next (.next (.next (.next (.next (.next (.next (.next (.next (.next (.next (.next (.next (.here)))))))))))))))))), fun X A hs => ⟨ts_nil, fun h_7 => ((ed_ne A (ed_call A hs (ea_cons (ed_var (.next (.here)) hs (by decide +kernel)) (ea_cons (ed_var (.next (.next (.here))) hs (by decide +kernel)) (ea_cons (ed_call A hs (ea_cons (ed_var (.next (.next (.next (.next (.next (.next (.next (.next (.next (.next (.next (.next (.here))))))))))))) hs (by decide +kernel)) (ea_cons (ed_var (.next (.next (.next (.next (.next (.next (.next (.next (.next (.next (.next (.next (.next (.next (.here))))))))))))))) hs (by decide +kernel)) (ea_cons (ed_var (.next (.next (.next (.next (.next (.next (.next (.next (.next (.next (.next (.next (.next (.next (.next (.next (.here))))))))))))))))) hs (by decide +kernel)) ea_nil))) (R_less.mk r2 lot i hl2 (by omega))) ea_nil))) (R_fitting.mk h hall _ ok t2 hh (sub_rec _ r2 0 hall hr2) (Nat.le_trans (sub_len _ r2 0) hl2))) (ed_tup ea_nil) (box_lay _) (by decide +kernel)).is (congrArg PyData.bool (hless i hi)))⟩⟩))) (bools_map _ _)) fun v H3 e3 rv => fin2 v H3 (by rw [all_true] at rv; exact rv) e3⟩
end WK
/-! WKLawR -/
set_option Elab.async false
set_option linter.all false
set_option maxRecDepth 100000
set_option maxHeartbeats 1000000
/-! The law's own rules; its cells. -/
namespace WK
open PySem PySem.Spec PyProof.Rows L2
/-! ### the script -/
theorem sql_kn {K : PySem.W.Frag} {H H' : Hp} {a : Addr} {xs : List V} (h : SqL K H a xs) (k : Kn [] H H') : SqL K H' a xs := by
  rcases h with (h | ⟨ob, h⟩) | h
  · exact .inl (.inl (k.k _ _ (fun z => by cases z) (fun _ z => by cases z) h))
  · exact .inl (.inr ⟨ob, k.k _ _ (fun z => by cases z) (fun _ z => by cases z) h⟩)
  · exact .inr h
section
variable {X : Cx} {k k' : Nat} {M : List Addr} {a b c e : Expr} {es : List Expr} {env : Nv} {H : Hp} {D : Ends} {d : PyData} {ds : List PyData} {pos p : Pos} {sc : Scope} {n : Str} {ps : List Str} {J : PyData → Hp → Prop} {JA : List PyData → Hp → Prop} {JB : Bool → Hp → Prop} {l : Addr} {vs : List V} {i : Int}
theorem ed_lenS (A : Hs X k) (hs : X.env.scope = sc) (hv : EvV X a env H (.ref l)) (hl : SqL X.K H l vs) (hg : glB sc "len" = true := by decide +kernel) (hp : plainE a = true := by rfl) : EvD X (.Call (.Name "len" p) [a] [] pos) env H (.int vs.length) := ⟨fun σ H1 e0 ok Q q =>
  ⟨_, pe_callB call_len_seq (gl_of hs hg) (A.t.free (by decide +kernel)) boot_len (pa_cons pe_w pa_nil (star_of hp)) (by decide) (gl_db hg) (star_of hp) (plain_of rfl), hv.run σ H1 e0 ok _ fun H2 e2 => ⟨l, vs, rfl, .inl (sql_kn hl (e0.trans e2).kn), q _ H2 e2 (.int _)⟩⟩⟩
theorem ed_ixS {ns : List Int} {j : Int} (hv : EvV X a env H (.ref l)) (hl : SqL X.K H l (ns.map V.int)) (hb : EvD X b env H (.int i)) (h : atI (ns.map V.int) i = some (.int j)) (hp : PlainIx b := by intro _ _; rfl) : EvD X (.Subscript a b pos) env H (.int j) := ⟨fun σ H1 e0 ok Q q =>
  ⟨_, pe_ix ix_list pe_w pe_w hp, hv.run σ H1 e0 ok _ fun H2 e2 => hb.run σ H2 (e0.trans e2) (ok.mono e2.t) _ fun v H3 e3 r3 => by
    cases r3
    exact ⟨l, ns.map V.int, i, .int j, rfl, rfl, sql_kn hl ((e0.trans e2).trans e3).kn, h, q _ H3 (e2.trans e3) (.int _)⟩⟩⟩
end
def SpCellK (K : PySem.W.Frag) : Sp := fun vs H Q _ => ∃ (a : Addr) (ns : List Int) (k : Int), vs = [V.ref a, V.int k] ∧ SqL K H a (ns.map V.int) ∧ 0 ≤ k ∧ ∀ i v H', Ex H H' → Rp H' v (.int i) → Q v H'
theorem len__law_cell_at (K : PySem.W.Frag) : ∀ vs H Q E, SpCellK K vs H Q E → vs.length = (["_law_script", "_law_k"] : List Str).length := fun vs H Q E ⟨_, _, _, e, _⟩ => by rw [e]; rfl
theorem sc__law_cell_at : FnScope ((["_law_script", "_law_k"] : List Str) ++ ([] : List Str)) ["_law_script", "_law_k"] (defScope (top 99)) := fnScope_by (by decide +kernel)
instance : HasCalK "_law_cell_at" 1 ["_law_script", "_law_k"] SpCellK := ⟨fun P w K mg T => by
  refine Cal.mkK T (i := 99) (N := (["_law_script", "_law_k"] : List Str) ++ ([] : List Str)) (List.mem_of_getElem? (i := 48) rfl) (by decide +kernel) sc__law_cell_at (fun _ _ _ _ _ _ us hl => match us, hl with | [_, _], _ => rfl) (len__law_cell_at K) fun X A hK hs hN hf vs H Q E h => ?_
  obtain ⟨a, ns, i, rfl, hl, hi, q⟩ := h
  subst hK
  refine go_beginS (ss := [.v (.ref a), .d (.int i)]) hs hN (.cons rfl (.cons (.int i) .nil)) rfl (by decide +kernel) ?_
  simp only [nvS, unM]
  refine go_when (et_lt (ed_var (.next (.here)) hs (by decide +kernel)) (ed_lenS A hs (ev_var .here hs (by decide +kernel)) hl)) (fun ht => ?_) fun ht => ?_
  · have ht := of_decide_eq_true ht
    rw [List.length_map] at ht
    obtain ⟨j, rfl⟩ := Int.eq_ofNat_of_zero_le hi
    have hj : j < ns.length := by omega
    refine go_ret (ed_ixS (j := ns[j]) (ev_var .here hs (by decide +kernel)) hl (ed_var (.next (.here)) hs (by decide +kernel)) ?_) fun v H1 e1 r => q _ v H1 e1 r
    unfold atI
    rw [ixN_ofNat (by rw [List.length_map]; exact hj)]
    show (ns.map V.int)[j]? = _
    rw [List.getElem?_map, List.getElem?_eq_getElem hj]
    rfl
  · exact go_ret ed_int fun v H1 e1 r => q _ v H1 e1 r⟩
/-! ### calls whose arguments draw -/
section
variable {X : Cx} {k k' : Nat} {M : List Addr} {a b c e : Expr} {es : List Expr} {env : Nv} {H : Hp} {D : Ends} {d : PyData} {ds : List PyData} {pos p : Pos} {sc : Scope} {n : Str} {ps : List Str} {J : PyData → Hp → Prop} {JA : List PyData → Hp → Prop} {JB : Bool → Hp → Prop} {l : Addr} {vs : List V} {i : Int}
theorem em_call {R : List PyData → PyData → Prop} [hc : HasCal n k' ps (SpD R)] (A : Hs X k) (hs : X.env.scope = sc) (ha : AvM X M (e :: es) env H fun ds H1 => Kp M H H1 → ∃ r, R ds r ∧ ∀ H2, Ex H1 H2 → J r H2) (hg : glB sc n = true := by decide +kernel) (hk : k' ≤ k := by decide) (hp : (e :: es).all plainE = true := by rfl) :
    EvM X M (.Call (.Name n p) (e :: es) [] pos) env H J := ⟨fun σ H1 e0 ok Q q => by
  obtain ⟨E, h⟩ := pe_cal (p := p) (pos := pos) (hc := hc) A hs hg hk hp
  refine ⟨_, h, ha.run σ H1 e0 ok _ fun vs ds H2 k2 jj r => ?_⟩
  obtain ⟨d, hr, j⟩ := jj (e0.kp.trans k2)
  show SpD R (vs ++ []) H2 Q E
  rw [List.append_nil]
  exact ⟨ds, d, hr, r, fun v H' e3 r3 => q v d H' (k2.trans e3.kp) (j H' e3) r3⟩⟩
theorem lm_call {R : List PyData → List PyData → Prop} [hc : HasCal n k' ps (SpL R)] (A : Hs X k) (hs : X.env.scope = sc) (ha : AvM X M (e :: es) env H fun ds H1 => Kp M H H1 → ∃ r, R ds r ∧ ∀ H2, Ex H1 H2 → JA r H2) (hg : glB sc n = true := by decide +kernel) (hk : k' ≤ k := by decide) (hp : (e :: es).all plainE = true := by rfl) :
    LvM X M (.Call (.Name n p) (e :: es) [] pos) env H JA := ⟨fun σ H1 e0 ok Q q => by
  obtain ⟨E, h⟩ := pe_cal (p := p) (pos := pos) (hc := hc) A hs hg hk hp
  refine ⟨_, h, ha.run σ H1 e0 ok _ fun vs ds H2 k2 jj r => ?_⟩
  obtain ⟨d, hr, j⟩ := jj (e0.kp.trans k2)
  show SpL R (vs ++ []) H2 Q E
  rw [List.append_nil]
  exact ⟨ds, d, hr, r, fun l H' hn e3 r3 => q l d H' (k2.s _ hn) (k2.trans e3.kp) (j H' e3) r3⟩⟩
theorem pe_calK {sp : PySem.W.Frag → Sp} [hc : HasCalK n k' ps sp] (A : Hs X k) (hs : X.env.scope = sc) (hg : glB sc n = true) (hk : k' ≤ k) (hp : (e :: es).all plainE = true) : ∃ E, PE X (.Call (.Name n p) (e :: es) [] pos) (tCall (sp X.K) [] E (wA X (e :: es))) := by
  obtain ⟨f, fd, h1, h2, h3, h4⟩ := (hc.cal X.prog X.w X.K X.mg A.t).ex
  obtain ⟨hp1, hp2⟩ := Bool.and_eq_true_iff.mp hp
  exact ⟨E0, pe_call (CX := CX0) (h4 X.base) (A.room.mono hk) (gl_of hs hg) h1 h2 h3 .nil pass0 pa_w (gl_db hg) (star_of hp1) (plain_of hp2)⟩
theorem em_cell {ns : List Int} (A : Hs X k) (hs : X.env.scope = sc) (hv : EvV X a env H (.ref l)) (hl : SqL X.K H l (ns.map V.int)) (hb : EvD X b env H (.int i)) (hi : 0 ≤ i) (q : ∀ j H', Ex H H' → J (.int j) H') (hg : glB sc "_law_cell_at" = true := by decide +kernel) (hk : 1 ≤ k := by decide) (hp : [a, b].all plainE = true := by rfl) :
    EvM X M (.Call (.Name "_law_cell_at" p) [a, b] [] pos) env H J := ⟨fun σ H1 e0 ok Q kk => by
  obtain ⟨E, h⟩ := pe_calK (n := "_law_cell_at") (sp := SpCellK) (p := p) (pos := pos) A hs hg hk hp
  obtain ⟨hp1, hp2⟩ := Bool.and_eq_true_iff.mp hp
  refine ⟨_, h, ⟨_, pa_cons pe_w (pa_cons pe_w pa_nil (star_of (Bool.and_eq_true_iff.mp hp2).1)) (star_of hp1), hv.run σ H1 e0 ok _ fun H2 e2 => hb.run σ H2 (e0.trans e2) (ok.mono e2.t) _ fun v H3 e3 r3 => ?_⟩⟩
  cases r3
  have eA := (e0.trans e2).trans e3
  exact ⟨l, ns, i, rfl, sql_kn hl eA.kn, hi, fun j v H' e4 r4 => kk v (.int j) H' ((e2.trans e3).trans e4).kp (q j H' (eA.trans e4)) r4⟩⟩
theorem em_entry {K : PySem.W.Frag} {pn x pl : Addr} {h : Ho} {hall : Int} {key : List Int} {w m : Nat} (A : Hs X k) (hs : X.env.scope = sc) (hKK : X.K = K) (hv : EvV X a env H (.ref pn)) (hb : EvD X b env H (hoD h)) (hc : EvV X c env H (.ref x)) (wk : WkAt K H x pl h hall key w) (ok : HoOk h) (hk : KeyOk h.teeth key) (hw : w ≤ 1000) (pen : Pen H pn (m + 5)) (npl : pn ≠ pl) (hM : ∀ y ∈ [pn, x, pl], y ∈ M)
    (q : ∀ o hall' key' H', Kp [pn, x, pl] H H' → Pen H' pn m → WkAt K H' x pl h hall' key' (w + 1) → StepOk h hall key o hall' key' → J (optE o) H') (hg : glB sc "_law_entry" = true := by decide +kernel) (hkk : 7 ≤ k := by decide) (hp : [a, b, c].all plainE = true := by rfl) :
    EvM X M (.Call (.Name "_law_entry" p) [a, b, c] [] pos) env H J := ⟨fun σ H1 e0 okn Q kk => by
  subst hKK
  obtain ⟨E, hh⟩ := pe_calK (n := "_law_entry") (sp := SpEntry) (p := p) (pos := pos) A hs hg hkk hp
  obtain ⟨hp1, hp2⟩ := Bool.and_eq_true_iff.mp hp
  obtain ⟨hp3, hp4⟩ := Bool.and_eq_true_iff.mp hp2
  refine ⟨_, hh, ⟨_, pa_cons pe_w (pa_cons pe_w (pa_cons pe_w pa_nil (star_of (Bool.and_eq_true_iff.mp hp4).1)) (star_of hp3)) (star_of hp1), hv.run σ H1 e0 okn _ fun H2 e2 => hb.run σ H2 (e0.trans e2) (okn.mono e2.t) _ fun v H3 e3 r3 => hc.run σ H3 ((e0.trans e2).trans e3) ((okn.mono e2.t).mono e3.t) _ fun H4 e4 => ?_⟩⟩
  have e5 := (e2.trans e3).trans e4
  have eA := e0.trans e5
  show SpEntry X.K ([.ref pn, v, .ref x] ++ []) H4 Q E
  exact ⟨pn, v, x, pl, h, hall, key, w, m, rfl, r3.mono e4.t, wk.ex eA, ok, hk, hw, pen.ex eA, npl, fun v' o hall' key' H' k1 p1 w1 s1 r1 => kk v' (optE o) H' (e5.kp.trans (k1.sub hM)) (q o hall' key' H' (eA.kp.trans k1) p1 w1 s1) r1⟩⟩
/-- not _law_otherwise(..) -/
theorem tm_other {pn : Addr} {h : Ho} {hall : Int} {key : List Int} {r : List Entry} {m : Nat} {a1 a2 a3 a4 a5 : Expr} {q5 : Pos} (A : Hs X k) (hs : X.env.scope = sc) (hv : EvV X a1 env H (.ref pn)) (ha : EvA X [a2, a3, a4, a5] env H [hoD h, .int hall, kD key, recD r]) (ok : HoOk h) (t2 : h.teeth ≤ 2) (hh : HallOk h hall) (hk : KeyOk h.teeth key) (hr : RecOk h hall r) (hl : r.length ≤ 12) (hf : fitB h hall key r = true) (pen : Pen H pn (m + 1)) (hM : pn ∈ M)
    (q : ∀ H', Kp [pn] H H' → Pen H' pn m → JB false H') (hg : glB sc "_law_otherwise" = true := by decide +kernel) (hkk : 13 ≤ k := by decide) (hp : [a1, a2, a3, a4, a5].all plainE = true := by rfl) : TvM X M (.UnaryOp .Not (.Call (.Name "_law_otherwise" p) [a1, a2, a3, a4, a5] [] pos) q5) env H JB := ⟨fun σ H1 e0 okn Q kk => by
  obtain ⟨E, hc⟩ := pe_cal (n := "_law_otherwise") (sp := SpOther) (p := p) (pos := pos) A hs hg hkk hp
  refine ⟨_, pt_not (pt_val hc (by intro _; rfl)), ⟨_, pa_cons pe_w pa_w (star_of (Bool.and_eq_true_iff.mp hp).1), hv.run σ H1 e0 okn _ fun H2 e2 => ha.run σ H2 (e0.trans e2) (okn.mono e2.t) _ fun vs H3 e3 r3 => ?_⟩⟩
  have eA := (e0.trans e2).trans e3
  cases r3 with
  | cons c1 r3 =>
  cases r3 with
  | cons c2 r3 =>
  cases r3 with
  | cons c3 r3 =>
  cases r3 with
  | cons c4 r3 =>
  cases r3
  cases c2
  exact ⟨pn, _, _, _, h, hall, key, r, m, rfl, c1, c3, c4, ok, t2, hh, hk, hr, hl, hf, pen.ex eA, fun H' k1 p1 => ⟨true, rfl, kk false H' ((e2.trans e3).kp.trans (k1.sub fun y hy => by
    obtain rfl : y = pn := by simpa using hy
    exact hM)) (q H' (eA.kp.trans k1) p1)⟩⟩⟩
theorem tm_when (hc : TvM X M c env H JB) {body rest : List Stmt} (h1 : ∀ H1, Kp M H H1 → JB true H1 → Go X body env H1 { D with nx := wB X rest D }) (h2 : ∀ H1, Kp M H H1 → JB false H1 → Go X rest env H1 D) : Go X (.If c body [] pos :: rest) env H D := gm_when hc h1 h2
/-! ### _law_fits, called -/
theorem fits_run {h : Ho} {hall : Int} {key : List Int} {r : List Entry} (A : Hs X k) (hs : X.env.scope = sc) (TB : LamX.TabB X.base X.mg (He.cT X.K ("_law_fits", none)).1 (He.cT X.K ("_law_fits", none)).2) (ha : EvA X [a, b, c] env H [hoD h, standD hall key, recD r]) (ok : HoOk h) (hh : HallOk h hall) (hk : KeyOk h.teeth key) (he : ∀ e ∈ r, EntryOk h e) (hl : r.length ≤ 12) (tabs : LamX.Tabs (fitTab X.K) H)
    (hg : glB sc "_law_fits" = true) (hkk : 13 ≤ k) (hp : [a, b, c].all plainE = true) : ∃ E, PE X (.Call (.Name "_law_fits" p) [a, b, c] [] pos) (tCall (SpFits X.K) [] E (wA X [a, b, c])) ∧ ∀ σ H1, Ex H H1 → NvOk X H1 σ env → ∀ Q : VK, (∀ H2, Kn [] H H2 → TLe H1 H2 → LamX.Tabs (fitTab X.K) H2 → Q (.bl (fitB h hall key r)) H2) → tCall (SpFits X.K) [] E (wA X [a, b, c]) σ H1 Q := by
  obtain ⟨f, fd, c1, c2, c3, c4, _⟩ := (cal__law_fits (P := X.prog) (w := X.w) (base := X.base) A.t TB).ex
  obtain ⟨hp1, hp2⟩ := Bool.and_eq_true_iff.mp hp
  refine ⟨E0, pe_call (CX := CX0) c4 (A.room.mono hkk) (gl_of hs hg) c1 c2 c3 .nil pass0 pa_w (gl_db hg) (star_of hp1) (plain_of hp2), fun σ H1 e0 okn Q kk => ha.run σ H1 e0 okn _ fun vs H2 e2 r2 => ?_⟩
  cases r2 with
  | cons d1 r2 =>
  cases r2 with
  | cons d2 r2 =>
  cases r2 with
  | cons d3 r2 =>
  cases r2
  exact ⟨_, _, _, h, hall, key, r, rfl, d1, d2, d3, ok, hh, hk, he, hl, tabs_ex (tabs_ex tabs e0) e2, fun H' kn tb => kk H' ((e0.trans e2).kn.trans kn) (e2.t.trans kn.t) tb⟩
theorem tn_notFits {h : Ho} {hall : Int} {key : List Int} {r : List Entry} {q5 : Pos} (A : Hs X k) (hs : X.env.scope = sc) (TB : LamX.TabB X.base X.mg (He.cT X.K ("_law_fits", none)).1 (He.cT X.K ("_law_fits", none)).2) (ha : EvA X [a, b, c] env H [hoD h, standD hall key, recD r]) (ok : HoOk h) (hh : HallOk h hall) (hk : KeyOk h.teeth key) (he : ∀ e ∈ r, EntryOk h e) (hl : r.length ≤ 12) (tabs : LamX.Tabs (fitTab X.K) H)
    (hg : glB sc "_law_fits" = true := by decide +kernel) (hkk : 13 ≤ k := by decide) (hp : [a, b, c].all plainE = true := by rfl) : TvN X (.UnaryOp .Not (.Call (.Name "_law_fits" p) [a, b, c] [] pos) q5) env H (fun t H' => t = (!fitB h hall key r) ∧ Kn [] H H' ∧ LamX.Tabs (fitTab X.K) H') := ⟨fun σ H1 e0 okn Q kk => by
  obtain ⟨E, h1, h2⟩ := fits_run (p := p) (pos := pos) A hs TB ha ok hh hk he hl tabs hg hkk hp
  exact ⟨_, pt_not (pt_val h1 (by intro _; rfl)), h2 σ H1 e0 okn _ fun H2 kn t tb => ⟨_, rfl, kk _ H2 t ⟨rfl, kn, tb⟩⟩⟩⟩
theorem tn_fitsNe {h : Ho} {hall : Int} {key : List Int} {r : List Entry} {q5 : Pos} {t : Bool} (A : Hs X k) (hs : X.env.scope = sc) (TB : LamX.TabB X.base X.mg (He.cT X.K ("_law_fits", none)).1 (He.cT X.K ("_law_fits", none)).2) (ha : EvA X [a, b, c] env H [hoD h, standD hall key, recD r]) (he2 : ∀ H', EvD X e env H' (.bool t)) (ok : HoOk h) (hh : HallOk h hall) (hk : KeyOk h.teeth key) (he : ∀ e ∈ r, EntryOk h e) (hl : r.length ≤ 12) (tabs : LamX.Tabs (fitTab X.K) H)
    (hg : glB sc "_law_fits" = true := by decide +kernel) (hkk : 13 ≤ k := by decide) (hp : [a, b, c].all plainE = true := by rfl) : TvN X (.Compare (.Call (.Name "_law_fits" p) [a, b, c] [] pos) [.NotEq] [e] q5) env H (fun z H' => z = (!PyData.eqv (.bool (fitB h hall key r)) (.bool t)) ∧ Kn [] H H' ∧ LamX.Tabs (fitTab X.K) H') := ⟨fun σ H1 e0 okn Q kk => by
  obtain ⟨E, h1, h2⟩ := fits_run (p := p) (pos := pos) A hs TB ha ok hh hk he hl tabs hg hkk hp
  refine ⟨_, pt_cmpR (op_neD A.units) h1 pe_w (nomark _), h2 σ H1 e0 okn _ fun H2 kn t2 tb => (he2 H2).run σ H2 (Ex.refl _) (okn.mono t2) _ fun u H3 e3 r3 => ?_⟩
  exact ⟨.bool (fitB h hall key r), .bool t, .bl _, r3.dp, rfl, rfl, _, rfl, kk _ H3 (t2.trans e3.t) ⟨rfl, kn.trans e3.kn, tabs_ex tb e3⟩⟩⟩
theorem ed_neL {ys : List PyData} (A : Hs X k) (ha : EvR X a env H ds) (hb : EvR X b env H ys) (sx : SeqAt.shaped (.list ds) = true) (sy : SeqAt.shaped (.list ys) = true) : EvD X (.Compare a [.NotEq] [b] pos) env H (.bool (!PyData.eqv (.list ds) (.list ys))) := ⟨fun σ H1 e0 ok Q q =>
  ⟨_, pe_cmpR (op_neD A.units) pe_w pe_w (nomark _), ha.run σ H1 e0 ok _ fun l H2 e2 r2 => hb.run σ H2 (e0.trans e2) (ok.mono e2.t) _ fun m H3 e3 r3 =>
    ⟨.list ds, .list ys, (r2.ex e3).dp, r3.dp, sx, sy, q _ H3 (e2.trans e3) (.bl _)⟩⟩⟩
end
/-! ### names forgotten -/
inductive NvLe : Nv → Nv → Prop
  | nil : NvLe [] []
  | same {p : Str × Sl} {e e' : Nv} : NvLe e e' → NvLe (p :: e) (p :: e')
  | drop {x : Str} {s : Sl} {e e' : Nv} : NvLe e e' → NvLe ((x, s) :: e) ((x, .un) :: e')
theorem NvLe.names : ∀ {e e' : Nv}, NvLe e e' → e'.map (·.1) = e.map (·.1)
  | _, _, .nil => rfl
  | _, _, .same h => congrArg (_ :: ·) h.names
  | _, _, .drop h => congrArg (_ :: ·) h.names
theorem NvLe.sl {H : Hp} : ∀ {e e' : Nv} {σ : L2.St}, NvLe e e' → NvA H σ e → NvA H σ e'
  | _, _, _, .nil, h => h
  | _, _, _, .same h, .cons q r => .cons q (h.sl r)
  | _, _, o :: _, .drop h, .cons q r => .cons (by cases o <;> exact True.intro) (h.sl r)
theorem NvLe.mem : ∀ {e e' : Nv} {p : Str × Sl}, NvLe e e' → p ∈ e' → p.2 ≠ .un → p ∈ e
  | _, _, _, .nil, h, _ => h
  | _, _, _, .same h, hp, n => by
    rcases List.mem_cons.mp hp with z | z
    · exact z ▸ List.mem_cons_self
    · exact List.mem_cons_of_mem _ (h.mem z n)
  | _, _, _, .drop h, hp, n => by
    rcases List.mem_cons.mp hp with z | z
    · exact absurd (by rw [z]) n
    · exact List.mem_cons_of_mem _ (h.mem z n)
theorem NvOk.le {X : Cx} {H : Hp} {σ : L2.St} {e e' : Nv} (h : NvOk X H σ e) (l : NvLe e e') : NvOk X H σ e' := ⟨h.names.trans l.names.symm, l.sl h.sl, fun p hp n => h.vis p (l.mem hp n) n⟩
/-- what was new at H is forgotten -/
theorem kn_drop2 {M : List Addr} {H H3 H' : Hp} (a : Kn [] H H3) (k : Kn M H3 H') (n : ∀ b ∈ M, H3 b = none) : Kn [] H H' := ⟨a.t.trans k.t, fun b o _ z h => by
  have h3 := a.k b o (fun w => by cases w) z h
  exact k.k b o (fun w => by rw [n b w] at h3; cases h3) z h3⟩
theorem inB_all : ∀ {b : List (Int × Int)} {l : List Int}, (∀ (j : Nat) (x : Int) (g : Int × Int), l[j]? = some x → b[j]? = some g → g.1 ≤ x ∧ x ≤ g.2) → inB b l = true
  | [], l, _ => by cases l <;> rfl
  | g :: b, [], _ => rfl
  | g :: b, x :: l, h => by
    obtain ⟨h1, h2⟩ := h 0 x g rfl rfl
    have ih := inB_all (b := b) (l := l) fun j y z hy hz => h (j + 1) y z (by simpa using hy) (by simpa using hz)
    show ((decide (g.1 ≤ x) && decide (x ≤ g.2)) && inB b l) = true
    rw [decide_eq_true h1, decide_eq_true h2, ih]
    rfl
end WK
/-! WKLaw -/
set_option Elab.async false
set_option linter.all false
set_option maxRecDepth 100000
set_option maxHeartbeats 2000000
/-! law -/
namespace WK
open PySem PySem.Spec PyProof.Rows L2
def SpLaw (K : PySem.W.Frag) : Sp := fun vs H Q _ => ∃ (a : Addr) (ns : List Int), vs = [V.ref a] ∧ SqL K H a (ns.map V.int) ∧ ns.length ≤ 63 ∧ LamX.Tabs (fitTab K) H ∧ ∀ v H', v = .bl true → Q v H'
theorem len_law (K : PySem.W.Frag) : ∀ vs H Q E, SpLaw K vs H Q E → vs.length = (["_law_script"] : List Str).length := fun vs H Q E ⟨_, _, h, _⟩ => by rw [h]; rfl
/-- what the walk has told so far -/
def FoundP (K : PySem.W.Frag) (p x pl : Addr) (h : Ho) (hall : Int) (key : List Int) (m : Nat) (items : List PyData) (i : Nat) (acc : List PyData) (H' : Hp) : Prop :=
  items.length ≤ 12 ∧ Pen H' p (m + 5 * (items.length - i)) ∧ ∃ l hall' key', acc = l.map optE ∧ l.length = i ∧ Ch h hall key l hall' key' ∧ WkAt K H' x pl h hall' key' i ∧ KeyOk h.teeth key'
theorem found_pe {K : PySem.W.Frag} {p x pl : Addr} {h : Ho} {hall : Int} {key : List Int} {m : Nat} {H : Hp} (hp : H p ≠ none) (hx : H x ≠ none) (hpl : H pl ≠ none) : ∀ items i acc H' H'' l, H l = none → ExL l H' H'' → TLe H' H'' → FoundP K p x pl h hall key m items i acc H' → FoundP K p x pl h hall key m items i acc H'' := by
  rintro items i acc H' H'' l hl xl tt ⟨h1, ⟨a, b, c, q1, q2⟩, l2, hall', key', h3, h4, h5, ⟨dx, vh, vb, vs, vk, past, kept, w1, w2, w3, w4, w5, w6, w7⟩, h7⟩
  have np : p ≠ l := fun z => hp (by rw [z]; exact hl)
  have nx : x ≠ l := fun z => hx (by rw [z]; exact hl)
  have npl : pl ≠ l := fun z => hpl (by rw [z]; exact hl)
  exact ⟨h1, ⟨a, b, c, xl _ _ np q1, q2⟩, l2, hall', key', h3, h4, h5, ⟨dx, vh, vb, vs, vk, past, kept, xl _ _ nx w1, w2.mono tt, w3.mono tt, w4.mono tt, w5, xl _ _ npl w6, w7⟩, h7⟩
theorem kn_new {M N : List Addr} {H H3 H' : Hp} (a : Kn M H H3) (k : Kn N H3 H') (n : ∀ b ∈ N, b ∈ M ∨ H3 b = none) : Kn M H H' := ⟨a.t.trans k.t, fun b o hb z h => by
  have h3 := a.k b o hb z h
  exact k.k b o (fun w => (n b w).elim hb fun w2 => by rw [w2] at h3; cases h3) z h3⟩
local macro_rules
  | `(tactic| walk_at "nv") => `(tactic| repeat first
    | exact NvLe.nil
    | refine NvLe.same ?_
    | refine NvLe.drop ?_)
theorem snoc_box {b : List (Int × Int)} {l : List Int} {i : Nat} {g : Int × Int} {y : Int} (hl : l.length = i) (h : ∀ (j : Nat) (y : Int) (g : Int × Int), l[j]? = some y → b[j]? = some g → g.1 ≤ y ∧ y ≤ g.2) (hg : b[i]? = some g) (hy : g.1 ≤ y ∧ y ≤ g.2) : ∀ (j : Nat) (z : Int) (w : Int × Int), (l ++ [y])[j]? = some z → b[j]? = some w → w.1 ≤ z ∧ z ≤ w.2 := fun j z w h1 h2 => by
  by_cases e : j < l.length
  · rw [List.getElem?_append_left e] at h1
    exact h j z w h1 h2
  · rw [List.getElem?_append_right (by omega)] at h1
    have e0 : j - l.length = 0 := by
      have := (List.getElem?_eq_some_iff.mp h1).1
      simp at this
      omega
    rw [e0] at h1
    have ej : j = i := by omega
    rw [ej, hg] at h2
    cases h1
    cases h2
    exact hy
theorem step_key {h : Ho} (ok : HoOk h) {hall hall1 : Int} {key key1 : List Int} {o : Option Entry} (hk : KeyOk h.teeth key) (S : StepOk h hall key o hall1 key1) : KeyOk h.teeth key1 := by
  cases o with
  | none =>
    cases S
    exact hk
  | some e => exact (step_some ok hk S).1
theorem box_emp (bs : List (List (Int × Int))) (key : List Int) : (((bs.map bD).filter (boxT key)).map id).isEmpty = !(bs.any fun b => inB b key) := by
  rw [List.map_id, List.filter_map, List.isEmpty_map]
  have e : (boxT key ∘ bD) = fun b => inB b key := funext fun b => by
    show inB (unB (bD b)) key = _
    rw [unB_bD]
  rw [e]
  induction bs with
  | nil => rfl
  | cons b bs ih =>
    rw [List.filter_cons, List.any_cons]
    cases inB b key with
    | true => rfl
    | false =>
      rw [if_neg (by decide), ih]
      rfl
theorem any_fit {h : Ho} (ok : HoOk h) {hall : Int} {r : List Entry} {key : List Int} (hk : KeyOk h.teeth key) : ((boxesOf h hall r).any fun b => inB b key) = fitB h hall key r := by
  have := boxes_iff ok (hall := hall) (r := r) hk
  rw [Bool.eq_iff_iff, List.any_eq_true]
  exact this
theorem box_layL (bs : List (List (Int × Int))) (key : List Int) : SeqAt.shaped (.list (((bs.map bD).filter (boxT key)).map id)) = true := ((lay_list (n := 2) fun d hd => by
  rw [List.map_id] at hd
  obtain ⟨b, _, rfl⟩ := mem_boxes (List.mem_filter.mp hd).1
  exact lay_box).le (by decide)).shaped
theorem noTb3 {p x pl : Addr} {H : Hp} (a : NoTb [p] H) (b : NoTb [x, pl] H) : NoTb [p, x, pl] H := fun y hy => by
  rcases List.mem_cons.mp hy with rfl | hy
  · exact a _ List.mem_cons_self
  · exact b y hy
theorem sc_law : FnScope ((["_law_script"] : List Str) ++ (["_law_k", "_law_pen_here", "_law_turn", "_law_house_here", "_law_hall", "_law_key_here", "_law_walker", "_law_found", "_law_record", "_law_boxes", "_law_box_here", "_law_drawn", "_law_own", "_law_lap", "_law_entry_here", "_law_low", "_law_high"] : List Str)) ["_law_script"] (defScope (top 118)) := fnScope_by (by decide +kernel)
theorem cal_law {P : Program} {w : World} {K : PySem.W.Frag} {mg : Str → Option Value} {base : Heap} (T : Tx K mg) (TB : LamX.TabB base mg (He.cT K ("_law_fits", none)).1 (He.cT K ("_law_fits", none)).2) : CalB P w K mg base "law" 14 ["_law_script"] (SpLaw K) := by
  refine Cal.mkT T (i := 118) (N := (["_law_script"] : List Str) ++ (["_law_k", "_law_pen_here", "_law_turn", "_law_house_here", "_law_hall", "_law_key_here", "_law_walker", "_law_found", "_law_record", "_law_boxes", "_law_box_here", "_law_drawn", "_law_own", "_law_lap", "_law_entry_here", "_law_low", "_law_high"] : List Str)) (List.mem_of_getElem? (i := 67) rfl) (by decide +kernel) sc_law (fun _ _ _ _ _ _ us hl => match us, hl with | [_], _ => rfl) (len_law K) fun X A hK hmg hbase hcode hqual hs hN hf vs H Q E h => ?_
  obtain ⟨a, ns, rfl, hq, hn, tabs, q⟩ := h
  refine go_beginS (ss := [.v (.ref a)]) hs hN (.cons rfl .nil) rfl (by decide +kernel) ?_
  subst hK hmg hbase
  simp only [nvS, unM]
  refine gn_for (fun H2 i nv H' => TLe H2 H' ∧ Kn [] H H' ∧ LamX.Tabs (fitTab X.K) H' ∧ nv = ([("_law_script", .v (.ref a)), ("_law_k", .un), ("_law_pen_here", .un), ("_law_turn", .un), ("_law_house_here", .un), ("_law_hall", .un), ("_law_key_here", .un), ("_law_walker", .un), ("_law_found", .un), ("_law_record", .un), ("_law_boxes", .un), ("_law_box_here", .un), ("_law_drawn", .un), ("_law_own", .un), ("_law_lap", .un), ("_law_entry_here", .un), ("_law_low", .un), ("_law_high", .un)] : Nv)) A (ei0_range A hs (by decide +kernel) (ed_max A hs ed_int (ed_min A hs (ed_lenS A hs (ev_var .here hs (by decide +kernel)) hq) ed_int)) (by rw [List.length_map]; omega)) (fun H2 e2 => ⟨.refl _, e2.kn, tabs_ex tabs e2, rfl⟩) (fun _ _ _ _ p => p.1) ?_ ?_
  · rintro H2 e2 i d nv H' hd ⟨t1, kn1, tb1, rfl⟩
    obtain rfl := (rangeD_get hd).2
    refine ⟨_, _, .name (.next (.here)), fun q hq => locN hf hs (by simp at hq; rcases hq with rfl; decide +kernel), fun H3 e3 => ?_⟩
    have kn3 := kn1.trans (e3.kn (M := []))
    have tb3 := tabs_ex tb1 e3
    have hq3 := sql_kn hq kn3
    refine gm_setL (M := []) A (lm_call (n := "_law_pen") (JA := fun ds H4 => ∃ c : Int, ds = [.int (max 0 (c - 10 ^ (18 : Int).toNat)), .int (c % 1000000007), .int 0] ∧ Ex H3 H4) A hs (am_cons (em_cell A hs (ev_var .here hs (by decide +kernel)) hq3 (ed_var (.next (.here)) hs (by decide +kernel)) (by omega) fun j H4 e4 _ => am_nil fun H5 e5 _ _ => ⟨_, R_pen.mk j, fun H6 e6 => ⟨j, rfl, (e4.trans e5).trans e6⟩⟩))) (fun _ => (.next (.next (.here)))) (locN hf hs (by decide +kernel)) fun p ds H4 hp k4 hj L4 => ?_
    obtain ⟨cc, rfl, e4⟩ := hj
    have pen4 : Pen H4 p 1000 := ⟨_, _, _, lst_ints L4, by omega, modB _ (by decide), by decide, by decide⟩
    have tb4 := tabs_ex tb3 e4
    have M1 : p ∈ [p] := List.mem_singleton.mpr rfl
    refine gn_for (fun H5 i5 nv H' => TLe H5 H' ∧ Kn [p] H3 H' ∧ LamX.Tabs (fitTab X.K) H' ∧ i5 ≤ 2 ∧ Pen H' p (450 * (2 - i5)) ∧ nv = ([("_law_script", .v (.ref a)), ("_law_k", .d (.int (i : Int))), ("_law_pen_here", .v (.ref p)), ("_law_turn", .un), ("_law_house_here", .un), ("_law_hall", .un), ("_law_key_here", .un), ("_law_walker", .un), ("_law_found", .un), ("_law_record", .un), ("_law_boxes", .un), ("_law_box_here", .un), ("_law_drawn", .un), ("_law_own", .un), ("_law_lap", .un), ("_law_entry_here", .un), ("_law_low", .un), ("_law_high", .un)] : Nv)) A (ei0_range A hs (by decide +kernel) ed_int (by decide)) (fun H5 e5 => ⟨.refl _, (e4.trans e5).kn, tabs_ex tb4 e5, by decide, (pen4.ex e5).le (by decide), rfl⟩) (fun _ _ _ _ p => p.1) ?_ ?_
    · rintro H5 e5 i5 d5 nv H6 hd5 ⟨t5, kn5, tb5, hi5, pen6, rfl⟩
      obtain ⟨hi6, rfl⟩ := rangeD_get hd5
      have hi6 : i5 < 2 := hi6
      refine ⟨_, _, .name (.next (.next (.next (.here)))), fun q hq => locN hf hs (by simp at hq; rcases hq with rfl; decide +kernel), fun H7 e7 => ?_⟩
      have tb7 := tabs_ex tb5 e7
      have kn7 := kn5.trans (e7.kn (M := [p]))
      obtain ⟨m, hm⟩ : ∃ m, m = 450 * (2 - (i5 + 1)) := ⟨_, rfl⟩
      have pen7 : Pen H7 p ((m + 150) + 300) := (pen6.ex e7).le (by omega)
      refine gm_set (M := [p]) A (em_call (n := "_law_two") (J := fun d H' => ∃ h, d = hoD (two h) ∧ HoOk h ∧ Pen H' p (m + 150)) A hs (am_cons (em_pc (n := "_law_house") (ds := []) (m := m + 150) A hs (ev_var (.next (.next (.here))) hs (by decide +kernel)) ea_nil R_hse.mk pen7 M1 fun d H8 k8 p8 hd _ => am_nil fun H9 e9 _ _ => by
        obtain ⟨h, rfl, hok⟩ := hd
        exact ⟨_, R_two.mk h hok, fun H10 e10 => ⟨h, rfl, hok, (p8.ex e9).ex e10⟩⟩))) (fun _ => (.next (.next (.next (.next (.here)))))) (locN hf hs (by decide +kernel)) fun d H8 k8 hj => ?_
      obtain ⟨h0, rfl, ok0, pen8⟩ := hj
      have ok := two_ok ok0
      have t2 : (two h0).teeth ≤ 2 := by
        show min 2 h0.teeth ≤ 2
        omega
      generalize two h0 = h at ok t2 ⊢
      have tb8 := tabs_kp tb7 k8 pen7.noTb
      have kn8 := kn7.trans k8.kn
      refine gm_unp (M := [p]) A (em_pc (n := "_law_stand") (m := m + 146) (J := fun d H' => (∃ hall key, d = standD hall key ∧ HallOk h hall ∧ KeyOk h.teeth key) ∧ Pen H' p (m + 146)) A hs (ev_var (.next (.next (.here))) hs (by decide +kernel)) (ea_cons (ed_var (.next (.next (.next (.next (.here))))) hs (by decide +kernel)) ea_nil) (R_stand.mk h ok.teeth ok.halls) pen8 M1 fun d H9 k9 p9 hd => ⟨hd, p9⟩) fun d H9 k9 hj => ?_
      obtain ⟨⟨hall, key, rfl, hh, hk⟩, pen9⟩ := hj
      refine ⟨_, _, .tup (.cons (.name (.next (.next (.next (.next (.next (.here))))))) (.cons (.name (.next (.next (.next (.next (.next (.next (.here)))))))) .nil)), fun q hq => locN hf hs (by simp at hq; rcases hq with rfl | rfl <;> decide +kernel), ?_⟩
      have tb9 := tabs_kp tb8 k9 pen8.noTb
      have kn9 := kn8.trans k9.kn
      refine go_setW A (ew_make A hs (ed_var (.next (.next (.next (.next (.here))))) hs (by decide +kernel)) (ed_tup (ea_cons (ed_var (.next (.next (.next (.next (.next (.here)))))) hs (by decide +kernel)) (ea_cons (ed_var (.next (.next (.next (.next (.next (.next (.here))))))) hs (by decide +kernel)) ea_nil))) ok hh hk) (fun _ => (.next (.next (.next (.next (.next (.next (.next (.here))))))))) (locN hf hs (by decide +kernel)) fun x pl H10 nx npl e10 w10 => ?_
      have pen10 := pen9.ex e10
      have tb10 := tabs_ex tb9 e10
      have nxp : x ≠ p := fun z => pen9.not (by rw [← z]; exact nx)
      have nplp : pl ≠ p := fun z => pen9.not (by rw [← z]; exact npl)
      obtain ⟨dx, vh, vb, vs, vk, past, kept, g1, _, _, _, _, g6, _⟩ := id w10
      have xn : H10 x ≠ none := fun z => by rw [g1] at z; cases z
      have pln : H10 pl ≠ none := fun z => by rw [g6] at z; cases z
      have hasM : Has1 [p, x, pl] H10 := fun y hy => by
        rcases List.mem_cons.mp hy with rfl | hy
        · exact pen10.not
        · rcases List.mem_cons.mp hy with rfl | hy
          · exact xn
          · obtain rfl : y = pl := by simpa using hy
            exact pln
      have M3 : p ∈ [p, x, pl] := List.mem_cons_self
      refine (gm_lc (N := ["_law_script", "_law_k", "_law_pen_here", "_law_turn", "_law_house_here", "_law_hall", "_law_key_here", "_law_walker", "_law_found", "_law_record", "_law_boxes", "_law_box_here", "_law_drawn", "_law_own", "_law_lap", "_law_entry_here", "_law_low", "_law_high"]) (own := [("_law_lap", 14)]) (FoundP X.K p x pl h hall key (m + 85)) A hs (M := [p, x, pl]) hasM (im_range (J := fun _ _ => True) (JI := fun items H' => items.length ≤ 12 ∧ Pen H' p (m + 145) ∧ WkAt X.K H' x pl h hall key 0) A hs (by decide +kernel) (em_draw A hs (ev_var (.next (.next (.here))) hs (by decide +kernel)) ed_int (by decide) (pen10 : Pen H10 p ((m + 145) + 1)) M3 fun i H11 k11 p11 g1 g2 _ => ⟨i, rfl, by omega, by rw [rangeD_len]; omega, p11, w10.kp k11 (not1 nxp) (not1 nplp)⟩)) rfl (by decide +kernel) (.drop (.drop (.keep (by decide +kernel) (by decide) (.drop (.keep (by decide +kernel) (by decide) (.drop (.drop (.keep (by decide +kernel) (by decide) (.drop (.drop (.drop (.drop (.drop (.drop (.drop (.drop (.drop (.drop .nil)))))))))))))))))) (fun items H11 k11 hj => ⟨by omega, hj.1, hj.2.1.le (by omega), [], hall, key, rfl, rfl, .nil, hj.2.2, hk⟩) (found_pe pen10.not xn pln) (fun items i d acc Hc hd hP hk => by
      obtain ⟨h1, h2, l, hall1, key1, rfl, h4, h5, h6, h7⟩ := hP
      exact ⟨_, (.name (.next (.next (.next (.next (.next (.next (.next (.next (.next (.next (.next (.next (.next (.next (.here)))))))))))))))), fun X A hK hs => (tsm_nil fun H2 e2 => fun X A hK hs => em_entry (m := m + 85 + 5 * (items.length - (i + 1))) A hs hK (ev_var (.next (.next (.here))) hs (by decide +kernel)) (ed_var (.next (.next (.next (.next (.here))))) hs (by decide +kernel)) (ev_var (.next (.next (.next (.next (.next (.next (.next (.here)))))))) hs (by decide +kernel)) (h6.ex e2) ok h7 (by have := lt_of_get hd; omega) ((pi_step hd h2).ex e2) nplp.symm (fun _ z => z) fun o hall2 key2 H3 k3 p3 w3 s3 => ⟨h1, p3, l ++ [o], hall2, key2, by rw [List.map_append]; rfl, by simp [h4], h5.snoc s3, w3, step_key ok h7 s3⟩)⟩) (fun _ => (.next (.next (.next (.next (.next (.next (.next (.next (.here)))))))))) (by decide +kernel) fun fa H11 acc items nf k11 hP L11 => ?_)
      obtain ⟨i1, pen11, l, hall1, key1, rfl, hll, hch, w11, hk1⟩ := hP
      have pen11 : Pen H11 p (m + 85) := pen11.le (by omega)
      have tb11 := tabs_kp tb10 k11 (noTb3 pen10.noTb w10.noTb)
      have kn11 : Kn [p] H3 H11 := kn_new kn9 ((e10.kn (M := [p, x, pl])).trans k11.kn) fun y hy => by
        rcases List.mem_cons.mp hy with rfl | hy
        · exact .inl M1
        · rcases List.mem_cons.mp hy with rfl | hy
          · exact .inr nx
          · obtain rfl : y = pl := by simpa using hy
            exact .inr npl
      obtain ⟨_, hrec, hag⟩ := hch.rec_ok ok hk
      have hfit : fitB h hall key (l.filterMap id) = true := (fitB_iff _ 0 hall key).mpr (hag 0)
      have hrl : (l.filterMap id).length ≤ 12 := Nat.le_trans (List.length_filterMap_le id l) (by omega)
      refine go_set A ((ed_tupL A hs (EvL.r (el_lc (N := ["_law_script", "_law_k", "_law_pen_here", "_law_turn", "_law_house_here", "_law_hall", "_law_key_here", "_law_walker", "_law_found", "_law_record", "_law_boxes", "_law_box_here", "_law_drawn", "_law_own", "_law_lap", "_law_entry_here", "_law_low", "_law_high"]) (own := [("_law_entry_here", 15)]) (fun d => !isN d) id A hs (ei_lst (ev_var (.next (.next (.next (.next (.next (.next (.next (.next (.here))))))))) hs (by decide +kernel)) L11) (by rw [List.length_map]; omega) rfl (by decide +kernel) (.drop (.drop (.drop (.drop (.drop (.drop (.drop (.drop (.drop (.drop (.drop (.drop (.drop (.drop (.drop (.drop (.drop (.drop .nil)))))))))))))))))) (fun d hd => by
      obtain ⟨o, ho, rfl⟩ := List.mem_map.mp hd
      exact ⟨_, (.name (.next (.next (.next (.next (.next (.next (.next (.next (.next (.next (.next (.next (.next (.next (.next (.here))))))))))))))))), fun X A hs => ⟨(ts_one (et_isnt (ed_var (.next (.next (.next (.next (.next (.next (.next (.next (.next (.next (.next (.next (.next (.next (.next (.here)))))))))))))))) hs (by decide +kernel)) ed_non)), fun h_2 => (ed_var (.next (.next (.next (.next (.next (.next (.next (.next (.next (.next (.next (.next (.next (.next (.next (.here)))))))))))))))) hs (by decide +kernel))⟩⟩)))).is (x := recD (l.filterMap id)) (by rw [opt_map]; rfl)) (.next (.next (.next (.next (.next (.next (.next (.next (.next (.here)))))))))) (locN hf hs (by decide +kernel)) ?_
      generalize l.filterMap id = r at hrec hfit hrl ⊢
      refine go_set A ((ed_call A hs (ea_cons (ed_var (.next (.next (.next (.next (.here))))) hs (by decide +kernel)) (ea_cons (ed_var (.next (.next (.next (.next (.next (.here)))))) hs (by decide +kernel)) (ea_cons (ed_var (.next (.next (.next (.next (.next (.next (.next (.next (.next (.here)))))))))) hs (by decide +kernel)) ea_nil))) (R_fitting.mk h hall r ok t2 hh hrec hrl)).is (x := .tuple ((boxesOf h hall r).map bD)) rfl) (.next (.next (.next (.next (.next (.next (.next (.next (.next (.next (.here))))))))))) (locN hf hs (by decide +kernel)) ?_
      have hbl : (boxesOf h hall r).length ≤ 100000 := boxes_len ok t2
      have hne : boxesOf h hall r ≠ [] := fun z => by
        obtain ⟨b0, hb0, _⟩ := (boxes_iff ok hk).mpr hfit
        rw [z] at hb0
        cases hb0
      have hcl : clashOf h hall r = none := (clash_boxes ok).mpr hne
      refine go_when (et_bool (ew_or (et_eqL A (EvL.r (el_lc (N := ["_law_script", "_law_k", "_law_pen_here", "_law_turn", "_law_house_here", "_law_hall", "_law_key_here", "_law_walker", "_law_found", "_law_record", "_law_boxes", "_law_box_here", "_law_drawn", "_law_own", "_law_lap", "_law_entry_here", "_law_low", "_law_high"]) (own := [("_law_box_here", 11)]) (boxT key) id A hs (ei_tup (ed_var (.next (.next (.next (.next (.next (.next (.next (.next (.next (.next (.here))))))))))) hs (by decide +kernel))) (by rw [List.length_map]; exact hbl) rfl (by decide +kernel) (.drop (.drop (.drop (.drop (.drop (.drop (.keep (by decide +kernel) (by decide) (.drop (.drop (.drop (.drop (.drop (.drop (.drop (.drop (.drop (.drop (.drop .nil)))))))))))))))))) (fun d hd => by
      obtain ⟨b, hb, rfl⟩ := mem_boxes hd
      exact ⟨_, (.name (.next (.next (.next (.next (.next (.next (.next (.next (.next (.next (.next (.here))))))))))))), fun X A hs => ⟨(ts_one (et_val ((ed_call A hs (ea_cons (ed_var (.next (.next (.next (.next (.next (.next (.next (.next (.next (.next (.next (.here)))))))))))) hs (by decide +kernel)) (ea_cons (ed_var (.next (.next (.next (.next (.next (.next (.here))))))) hs (by decide +kernel)) ea_nil)) (R_lin.mk b key (by have := (boxes_each ok hb).1; omega))).is (by show PyData.bool (inB b key) = .bool (inB (unB (bD b)) key); rw [unB_bD])))), fun h_3 => (ed_var (.next (.next (.next (.next (.next (.next (.next (.next (.next (.next (.next (.here)))))))))))) hs (by decide +kernel))⟩⟩))) (EvL.r (el_lst ea_nil)) (box_layL _ _) (by decide)) fun _ => ew_or1 (et_isnt ((ed_call A hs (ea_cons (ed_var (.next (.next (.next (.next (.here))))) hs (by decide +kernel)) (ea_cons (ed_var (.next (.next (.next (.next (.next (.here)))))) hs (by decide +kernel)) (ea_cons (ed_var (.next (.next (.next (.next (.next (.next (.next (.next (.next (.here)))))))))) hs (by decide +kernel)) ea_nil))) (R_clash.mk h hall r ok t2 hh hrec hrl)).is (by rw [hcl])) ed_non))) (fun ht => ?_) (fun _ => ?_)
      · rw [eqv_nilL, box_emp, any_fit ok hk, hfit] at ht
        cases ht
      have hc6 : cutD ((boxesOf h hall r).map bD) none (some 6) = ((boxesOf h hall r).map bD).take 6 := cut_to _ 6
      have hl6 : (((boxesOf h hall r).map bD).take 6).length ≤ 6 := by
        rw [List.length_take]
        omega
      refine gn_for (fun H12 i6 nv H' => TLe H12 H' ∧ Kn [p] H3 H' ∧ LamX.Tabs (fitTab X.K) H' ∧ Pen H' p ((m + 20) + 3 * ((((boxesOf h hall r).map bD).take 6).length - i6)) ∧ nv = ([("_law_script", .v (.ref a)), ("_law_k", .d (.int (i : Int))), ("_law_pen_here", .v (.ref p)), ("_law_turn", .d (.int (i5 : Int))), ("_law_house_here", .d (hoD h)), ("_law_hall", .d (.int hall)), ("_law_key_here", .d (kD key)), ("_law_walker", .v (.ref x)), ("_law_found", .v (.ref fa)), ("_law_record", .d (recD r)), ("_law_boxes", .d (.tuple ((boxesOf h hall r).map bD))), ("_law_box_here", .un), ("_law_drawn", .un), ("_law_own", .un), ("_law_lap", .un), ("_law_entry_here", .un), ("_law_low", .un), ("_law_high", .un)] : Nv)) A (ei0_tup ((ed_slice (ed_var (.next (.next (.next (.next (.next (.next (.next (.next (.next (.next (.here))))))))))) hs (by decide +kernel)) eo_none (eo_some ed_int)).is (congrArg PyData.tuple hc6))) (fun H12 e12 => ⟨.refl _, kn11.trans e12.kn, tabs_ex tb11 e12, (pen11.ex e12).le (by omega), rfl⟩) (fun _ _ _ _ p => p.1) ?_ ?_
      · rintro H12 e12 i6 d6 nv H13 hd6 ⟨t13, kn13, tb13, pen13, rfl⟩
        obtain ⟨b, hb, rfl⟩ := mem_boxes (List.mem_of_mem_take (List.mem_of_getElem? hd6))
        have hi6' := lt_of_get hd6
        have hbo := boxes_each ok hb
        have hbl3 := hbo.1
        have hbt := ok.teeth
        refine ⟨_, _, .name (.next (.next (.next (.next (.next (.next (.next (.next (.next (.next (.next (.here)))))))))))), fun q hq => locN hf hs (by simp at hq; rcases hq with rfl; decide +kernel), fun H14 e14 => ?_⟩
        have tb14 := tabs_ex tb13 e14
        have kn14 := kn13.trans (e14.kn (M := [p]))
        obtain ⟨m1, hm1⟩ : ∃ m1, m1 = (m + 20) + 3 * ((((boxesOf h hall r).map bD).take 6).length - (i6 + 1)) := ⟨_, rfl⟩
        have penB : Pen H14 p (m1 + 3) := (pen13.ex e14).le (by omega)
        refine gm_set (M := [p]) A (em_tupL (J := fun d H' => (∃ l, d = kD l ∧ l.length = b.length ∧ ∀ (j : Nat) (y : Int) (g : Int × Int), l[j]? = some y → b[j]? = some g → g.1 ≤ y ∧ y ≤ g.2) ∧ Pen H' p m1) A hs (lm_lc (N := ["_law_script", "_law_k", "_law_pen_here", "_law_turn", "_law_house_here", "_law_hall", "_law_key_here", "_law_walker", "_law_found", "_law_record", "_law_boxes", "_law_box_here", "_law_drawn", "_law_own", "_law_lap", "_law_entry_here", "_law_low", "_law_high"]) (own := [("_law_low", 16), ("_law_high", 17)]) (PI p m1 1 fun items i acc => items = b.map gD ∧ ∃ l, acc = zD l ∧ l.length = i ∧ ∀ (j : Nat) (y : Int) (g : Int × Int), l[j]? = some y → b[j]? = some g → g.1 ≤ y ∧ y ≤ g.2) A hs penB.has (im_i (JI := fun its H1 => its = b.map gD ∧ Pen H1 p (m1 + 3)) (ei_tup (ed_var (.next (.next (.next (.next (.next (.next (.next (.next (.next (.next (.next (.here)))))))))))) hs (by decide +kernel))) penB.has (fun b hb => by cases hb) (fun _ e1 => ⟨rfl, penB.ex e1⟩)) rfl (by decide +kernel) (.drop (.drop (.keep (by decide +kernel) (by decide) (.drop (.drop (.drop (.drop (.drop (.drop (.drop (.drop (.drop (.drop (.drop (.drop (.drop (.drop (.drop .nil)))))))))))))))))) (fun items H1 k1 e => by
        obtain ⟨rfl, e⟩ := e
        exact ⟨by rw [List.length_map]; omega, Nat.zero_le _, e.le (by rw [List.length_map]; omega), rfl, [], rfl, rfl, fun j y g hy => by simp at hy⟩) (pi_pe penB) (fun items i d acc Hc hd hP hk => by
      obtain ⟨h1, h2, rfl, lw, rfl, h5, h6⟩ := hP
      have hil := lt_of_get hd
      obtain ⟨g, hg, rfl⟩ : ∃ g : Int × Int, b[i]? = some g ∧ d = .tuple [.int g.1, .int g.2] := by
        rw [List.getElem?_map] at hd
        cases hbi : b[i]? with
        | none => rw [hbi] at hd; cases hd
        | some g => rw [hbi] at hd; exact ⟨g, rfl, (Option.some.inj hd).symm⟩
      have hgo := hbo.2 g (List.mem_of_getElem? hg)
      exact ⟨_, (.tup (.cons (.name (.next (.next (.next (.next (.next (.next (.next (.next (.next (.next (.next (.next (.next (.next (.next (.next (.here)))))))))))))))))) (.cons (.name (.next (.next (.next (.next (.next (.next (.next (.next (.next (.next (.next (.next (.next (.next (.next (.next (.next (.here))))))))))))))))))) .nil))), fun X A hK hs => (tsm_nil fun H2 e2 => fun X A hK hs => em_add (em_d (ed_var (.next (.next (.next (.next (.next (.next (.next (.next (.next (.next (.next (.next (.next (.next (.next (.next (.here))))))))))))))))) hs (by decide +kernel)) fun Ha ea _ => em_draw A hs (ev_var (.next (.next (.here))) hs (by decide +kernel)) (ed_add (ed_sub (ed_var (.next (.next (.next (.next (.next (.next (.next (.next (.next (.next (.next (.next (.next (.next (.next (.next (.next (.here)))))))))))))))))) hs (by decide +kernel)) (ed_var (.next (.next (.next (.next (.next (.next (.next (.next (.next (.next (.next (.next (.next (.next (.next (.next (.here))))))))))))))))) hs (by decide +kernel))) ed_int) (by obtain ⟨z1, z2, z3⟩ := hgo; omega) (((pi_step (by rw [List.getElem?_map, hg]; rfl : (b.map gD)[i]? = some (gD g)) h2).ex e2).ex ea) (List.mem_singleton.mpr rfl) fun i2 H3 k3 p3 f1 f2 _ => ⟨g.1, i2, rfl, rfl, hil, p3, rfl, lw ++ [g.1 + i2], by unfold zD; rw [List.map_append]; rfl, by simp [h5], snoc_box h5 h6 hg ⟨by omega, by omega⟩⟩))⟩)) fun ds H1 H2 k1 hj e2 => ?_) (fun _ => (.next (.next (.next (.next (.next (.next (.next (.next (.next (.next (.next (.next (.next (.here))))))))))))))) (locN hf hs (by decide +kernel)) fun d H15 k15 hj => ?_
        · obtain ⟨items, h1, h2, rfl, lw, rfl, h5, h6⟩ := hj
          exact ⟨⟨lw, rfl, by rw [h5, List.length_map], h6⟩, (h2.ex e2).le (by omega)⟩
        obtain ⟨⟨own, rfl, ho1, ho2⟩, pen15⟩ := hj
        have hown : KeyOk h.teeth own := ⟨by omega, fun y hy => by
          obtain ⟨j, hj⟩ := List.mem_iff_getElem?.mp hy
          have hjl := (List.getElem?_eq_some_iff.mp hj).1
          have hbj : b[j]? = some b[j] := List.getElem?_eq_getElem (by omega)
          obtain ⟨z1, z2⟩ := ho2 j y _ hj hbj
          obtain ⟨z3, z4, z5⟩ := hbo.2 _ (List.mem_of_getElem? hbj)
          omega⟩
        have hfo : fitB h hall own r = true := (boxes_iff ok hown).mp ⟨b, hb, inB_all ho2⟩
        have tb15 := tabs_kp tb14 k15 penB.noTb
        have kn15 := kn14.trans k15.kn
        refine gn_when (tn_notFits A hs TB (ea_cons (ed_var (.next (.next (.next (.next (.here))))) hs (by decide +kernel)) (ea_cons (ed_tup (ea_cons (ed_var (.next (.next (.next (.next (.next (.here)))))) hs (by decide +kernel)) (ea_cons (ed_var (.next (.next (.next (.next (.next (.next (.next (.next (.next (.next (.next (.next (.next (.here)))))))))))))) hs (by decide +kernel)) ea_nil))) (ea_cons (ed_var (.next (.next (.next (.next (.next (.next (.next (.next (.next (.here)))))))))) hs (by decide +kernel)) ea_nil))) ok hh hown (rec_each hrec) hrl tb15) (fun H16 hj => ?_) (fun H16 hj => ?_)
        · rw [hfo] at hj
          cases hj.1
        · obtain ⟨_, j2, j3⟩ := hj
          refine go_nil fun σ H17 e17 ok17 => ⟨_, ok17.le (by walk_at "nv"), ((((t13.trans e14.t).trans k15.t).trans j2.t).trans e17.t), (kn15.trans (j2.sub fun y hy => by cases hy)).trans e17.kn, tabs_ex j3 e17, ?_, rfl⟩
          exact ((pen15.kn j2 (fun z => by cases z)).ex e17).le (by omega)
      · rintro H12 e12 nv H13 ⟨t13, kn13, tb13, pen13, rfl⟩
        refine gm_set (M := [p]) A (em_pc (n := "_law_key") (m := m + 15) (J := fun d H' => (∃ key, d = kD key ∧ KeyOk h.teeth key) ∧ Pen H' p (m + 15)) A hs (ev_var (.next (.next (.here))) hs (by decide +kernel)) (ea_cons (ed_ix (d := .int h.teeth) (ed_var (.next (.next (.next (.next (.here))))) hs (by decide +kernel)) ed_int (by rfl)) ea_nil) (R_key.mk h.teeth (by have := ok.teeth; omega)) ((pen13.le (by omega)) : Pen H13 p ((m + 15) + 3)) M1 fun d H14 k14 p14 hd => ⟨hd, p14⟩) (fun _ => (.next (.next (.next (.next (.next (.next (.next (.next (.next (.next (.next (.next (.here)))))))))))))) (locN hf hs (by decide +kernel)) fun d H14 k14 hj => ?_
        obtain ⟨⟨drawn, rfl, hdr⟩, pen14⟩ := hj
        have tb14 := tabs_kp tb13 k14 pen13.noTb
        have kn14 := kn13.trans k14.kn
        refine gn_when (tn_fitsNe (t := fitB h hall drawn r) A hs TB (ea_cons (ed_var (.next (.next (.next (.next (.here))))) hs (by decide +kernel)) (ea_cons (ed_tup (ea_cons (ed_var (.next (.next (.next (.next (.next (.here)))))) hs (by decide +kernel)) (ea_cons (ed_var (.next (.next (.next (.next (.next (.next (.next (.next (.next (.next (.next (.next (.here))))))))))))) hs (by decide +kernel)) ea_nil))) (ea_cons (ed_var (.next (.next (.next (.next (.next (.next (.next (.next (.next (.here)))))))))) hs (by decide +kernel)) ea_nil))) (fun H' => (ed_neL A (EvL.r (el_lc (N := ["_law_script", "_law_k", "_law_pen_here", "_law_turn", "_law_house_here", "_law_hall", "_law_key_here", "_law_walker", "_law_found", "_law_record", "_law_boxes", "_law_box_here", "_law_drawn", "_law_own", "_law_lap", "_law_entry_here", "_law_low", "_law_high"]) (own := [("_law_box_here", 11)]) (boxT drawn) id A hs (ei_tup (ed_var (.next (.next (.next (.next (.next (.next (.next (.next (.next (.next (.here))))))))))) hs (by decide +kernel))) (by rw [List.length_map]; exact hbl) rfl (by decide +kernel) (.drop (.drop (.drop (.drop (.drop (.drop (.drop (.drop (.drop (.drop (.drop (.drop (.keep (by decide +kernel) (by decide) (.drop (.drop (.drop (.drop (.drop .nil)))))))))))))))))) (fun d hd => by
      obtain ⟨b, hb, rfl⟩ := mem_boxes hd
      exact ⟨_, (.name (.next (.next (.next (.next (.next (.next (.next (.next (.next (.next (.next (.here))))))))))))), fun X A hs => ⟨(ts_one (et_val ((ed_call A hs (ea_cons (ed_var (.next (.next (.next (.next (.next (.next (.next (.next (.next (.next (.next (.here)))))))))))) hs (by decide +kernel)) (ea_cons (ed_var (.next (.next (.next (.next (.next (.next (.next (.next (.next (.next (.next (.next (.here))))))))))))) hs (by decide +kernel)) ea_nil)) (R_lin.mk b drawn (by have := (boxes_each ok hb).1; omega))).is (by show PyData.bool (inB b drawn) = .bool (inB (unB (bD b)) drawn); rw [unB_bD])))), fun h_5 => (ed_var (.next (.next (.next (.next (.next (.next (.next (.next (.next (.next (.next (.here)))))))))))) hs (by decide +kernel))⟩⟩))) (EvL.r (el_lst ea_nil)) (box_layL _ _) (by decide)).is (by rw [eqv_nilL, box_emp, any_fit ok hdr, Bool.not_not])) ok hh hdr (rec_each hrec) hrl tb14) (fun H15 hj => ?_) (fun H15 hj => ?_)
        · have := hj.1
          rw [eqv_bool] at this
          simp at this
        · obtain ⟨_, j2, j3⟩ := hj
          have pen15 := pen14.kn j2 (fun z => by cases z)
          have kn15 : Kn [p] H3 H15 := kn14.trans (j2.sub fun y hy => by cases hy)
          refine gm_when (M := [p]) (tm_other (JB := fun b H' => b = false ∧ Pen H' p m) A hs (ev_var (.next (.next (.here))) hs (by decide +kernel)) (ea_cons (ed_var (.next (.next (.next (.next (.here))))) hs (by decide +kernel)) (ea_cons (ed_var (.next (.next (.next (.next (.next (.here)))))) hs (by decide +kernel)) (ea_cons (ed_var (.next (.next (.next (.next (.next (.next (.here))))))) hs (by decide +kernel)) (ea_cons (ed_var (.next (.next (.next (.next (.next (.next (.next (.next (.next (.here)))))))))) hs (by decide +kernel)) ea_nil)))) ok t2 hh hk hrec hrl hfit (pen15.le (by omega)) M1 fun H' k' p' => ⟨rfl, p'⟩) (fun _ _ z => by cases z.1) (fun H16 k16 hj => ?_)
          have tb16 := tabs_kp j3 k16 pen15.noTb
          have kn16 := kn15.trans k16.kn
          refine go_nil fun σ H17 e17 ok17 => ⟨_, ok17.le (by walk_at "nv"), ?_, kn16.trans e17.kn, tabs_ex tb16 e17, by omega, ((hj.2.ex e17).le (by omega)), rfl⟩
          exact ((((((((((t5.trans e7.t).trans k8.t).trans k9.t).trans e10.t).trans k11.t).trans e12.t).trans t13).trans k14.t).trans j2.t).trans k16.t).trans e17.t
    · rintro H5 e5 nv H6 ⟨t5, kn5, tb5, _, pen6, rfl⟩
      have knf := kn_new kn3 kn5 fun y hy => by
        obtain rfl : y = p := by simpa using hy
        exact .inr hp
      refine go_nil fun σ H7 e7 ok7 => ⟨_, ok7.le (by walk_at "nv"), ((t1.trans e3.t).trans kn5.t).trans e7.t, knf.trans e7.kn, tabs_ex tb5 e7, rfl⟩
  · rintro H2 e2 nv H' ⟨t1, kn1, tb1, rfl⟩
    exact go_ret ed_bl fun v H3 e3 rv => q v H3 (by cases rv; rfl)
end WK
/-! WKEnd -/
set_option Elab.async false
set_option linter.all false
set_option maxRecDepth 100000
set_option maxHeartbeats 0
/-! The end. -/
namespace WK
open PySem PySem.Spec PyProof.Rows L2
abbrev fitC (K : PySem.W.Frag) : Addr × Addr := He.cT K ("_law_fits", none)
theorem tx_of {h : Heap} {K : PySem.W.Frag} {mg : Str → Option Value} (X : K.In h) (G : h.Ns mainGlobals mg) (c : SaysY h K) : Tx K mg := ⟨c.d, c.ex, fun x r e => by
  cases r with
  | none => exact PySem.W.mg_none_of X G e
  | some v => exact PySem.W.mg_of X G e⟩
theorem law_at {w : World} {K : PySem.W.Frag} {mg : Str → Option Value} {h : Heap} {fa : Addr} (X : K.In h) (G : h.Ns mainGlobals mg) (c : SaysY h K) (hfa : mg ("law" : Str) = some (.ref fa)) : LamX.LawAtS PySem.Challenge.rw_wearkeys_k77_whole_records_of_a_walker w K CX0 14 63 "_law_script" mg fa h := by
  have T : Tx K mg := tx_of X G c
  obtain ⟨fd, F⟩ := T.d.defs (d := dG "law" 118) (List.mem_of_getElem? (i := 67) rfl)
  have hg : mg ("law" : Str) = some (.ref (He.ga K "law")) := T.glo (by decide +kernel)
  have ea : fa = He.ga K "law" := by
    rw [hfa] at hg
    exact Value.ref.inj (Option.some.inj hg)
  subst ea
  have hb := FunD.bindsA (ps := ["_law_script"]) F fun _ _ _ _ _ _ us hl => match us, hl with | [_], _ => rfl
  have one : ∀ p ∈ [fitC K], p = fitC K := fun p hp => List.mem_singleton.mp hp
  have mem : (("_law_fits", none) : He.Defn) ∈ tfs := List.mem_singleton.mpr rfl
  refine ⟨fd, [fitC K], SpLaw K, fun p hp => ?_, fun p hp => ?_, fun p hp => ?_, fun s u => hb s [u] rfl, fun H a ns hl _ hT hS => ?_, fun base hKb hNs hTB => ?_⟩
  · rw [one p hp]
    exact c.emp _ mem
  · rw [one p hp]
    exact c.out _ mem
  · rw [one p hp]
    exact PySem.W.codeHd_of_K X (c.hd _ mem)
  · exact ⟨a, ns, rfl, hS, hl, fun p hp => by
      rw [List.mem_singleton.mp hp]
      exact LamX.TabS.nil (hT _ (List.mem_singleton.mpr rfl)), fun v H' e => e⟩
  · obtain ⟨f2, fd2, c1, _, _, c4, c5⟩ := (cal_law (P := prog) (w := w) (base := base) T (hTB _ (List.mem_singleton.mpr rfl))).ex
    have e2 : f2 = He.ga K "law" := by
      rw [hfa] at c1
      exact (Value.ref.inj (Option.some.inj c1)).symm
    subst e2
    obtain rfl := c5.one (FunD_at F)
    exact c4
end WK
open PySem PySem.W PySem.Calls PyProof.Rows
theorem PySem.Challenge.cw_wearkeys_k77_whole_records_of_a_walker_holds : PySem.Challenge.rw_wearkeys_k77_whole_records_of_a_walker.Holds := by
  w_on; o_law
  refine HandSHeadRun.head_any (r := OpenLaw.row PySem.Challenge.rw_wearkeys_k77_whole_records_of_a_walker) (q := view (OpenLaw.row PySem.Challenge.rw_wearkeys_k77_whole_records_of_a_walker).prog [118]) (H := WK.hk) (ob := WK.ob) (M := 60000) (loose := WK.loose) (d := HandSHeadRun.topDef (OpenLaw.row PySem.Challenge.rw_wearkeys_k77_whole_records_of_a_walker).prog 118) (kwd := []) WK.ob_eq
    (by kernel_rfl) (fun s => by kernel_rfl) WK.run (by kernel_rfl) (by kernel_rfl) (by kernel_rfl) (by rfl) (by first | assumption | decide +kernel) (by decide +kernel) ⟨rfl, rfl, rfl, rfl, rfl, by decide +kernel⟩ ?hw ?hc
  case hw => w_witness2
  case hc =>
    refine LamX.walk_ofTsE (l := PySem.Challenge.rw_wearkeys_k77_whole_records_of_a_walker) (n := 63) (k := 14) (x := "_law_script") (CX := fun _ => L2.CX0) rfl (by decide) (by kernel_rfl) ⟨rfl, by decide, by decide⟩ ?F (fun _ _ _ _ _ z => z)
    intro w mg fa h Y G hmg0
    obtain ⟨K, KX, c⟩ := Y
    have hmg : mg ("law" : PySem.Str) = some (.ref fa) := by
      have e : (HandSHeadRun.topDef (OpenLaw.row PySem.Challenge.rw_wearkeys_k77_whole_records_of_a_walker).prog 118).name = ("law" : PySem.Str) := by kernel_rfl
      rw [← e]
      exact hmg0
    exact ⟨K, KX, WK.law_at KX G c hmg⟩
