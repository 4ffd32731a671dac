import PyProof.Rows.All
import Wide.All
import OpenK.AllK
import Wide.FinOn
import KE.KStateDown
import Lean
import HandS.Words
import HandS.Head0
import HandS.Head1
import HandS.Head2
import HandS.HeadEnd
import HandS.HeadHook4
import HandS.ForMost
import HandS.ForExc
import HandS.Evl
import HandS.TupAny
import HandS.IsInst
import HandS.WideBits
import HandS.Conv
import HandS.Defaults
import HandS.WrittenGet
import HandS.Zip
import HandS.DictComp
import HandS.Flow
import HandS.Star
import HandS.Lambda
import HandS.Style
import KE.KDictZip
import KE.KDictItemsList
import HandS.ListItems
import HandS.MapObj
import KE.KDictOf
import KE.GoesMore
import KE.GoesEnum
import KE.KDictSum
import HandS.More
import HandS.HeadHook3
import HandS.Exc
import HandS.ExcOwn
import HandS.WordsExc
import HandS.TryOnly
import HandS.Small
import PyProof.ExcBaseAll.ValueError
import HandS.EndTab
import HandS.HeadWalk
import PySem.Challenge.RW_formstead_k24_whole_n_steps_and_m_steps
set_option Elab.async false
set_option linter.all false
set_option maxRecDepth 100000
set_option maxHeartbeats 4000000
/-! The head: what is looked at. -/
namespace FS
open PySem PySem.Spec PyProof.Rows L2
def hTop (i : Nat) : Stmt := PySem.Challenge.pw_formstead_k24_whole_n_steps_and_m_steps.main.body.getD i (.Pass ⟨0, 0, 0, 0⟩)
def dd (x : Str) (st : Stmt) (l : List He.Dv) : He.DefD := ⟨(x, none), x, x, defArgs st, defBody st, defScope st, l, []⟩
def fa1 : List He.Fa := [.glo "words_of", .glo "length_by", .glo "depth_by", .glo "parts_with_names", .glo "names_met", .glo "free_by", .glo "ats_met", .glo "ats_by", .glo "led_name", .glo "led_by", .glo "put_in_by", .glo "put_length", .glo "put_depth", .glo "part_by", .glo "replaced_by", .glo "ats_led_by", .glo "is_value_by", .glo "is_whole", .glo "is_count", .glo "is_number", .glo "is_leaf", .glo "is_patterned", .glo "is_closed_term", .glo "is_sourced", .glo "is_programmed", .glo "are_fitting", .glo "check_program", .glo "check_number", .glo "met_by", .glo "tidied_by"]
def fa2 : List He.Fa := [.glo "place_by", .glo "summed", .glo "fault_of", .glo "called", .glo "made", .glo "outcome_by", .glo "next_by", .glo "next_tidied", .glo "go_on", .glo "_law_well", .glo "_law_draw", .glo "_law_pick", .glo "_law_same", .glo "_law_names", .glo "_law_length", .glo "_law_depth", .glo "_law_is_great", .glo "_law_way", .glo "_law_led", .glo "_law_put_in", .glo "_law_part_at", .glo "_law_replaced", .glo "_law_ats", .glo "_law_met", .glo "_law_renumbered", .glo "_law_tidied", .glo "_law_is_value", .glo "_law_place", .glo "_law_reckoned", .glo "_law_here"]
def fa3 : List He.Fa := [.glo "_law_next", .glo "_law_number", .glo "_law_leaf", .glo "_law_again", .glo "_law_part", .glo "_law_sum", .glo "_law_turn", .glo "_law_loop", .glo "_law_value", .glo "_law_program", .glo "_law_jumbled", .glo "_law_tried", .glo "_law_gone", .glo "law", .free "len", .free "sum", .free "max", .free "all", .free "any", .free "abs", .free "divmod", .free "isinstance", .free "int", .free "tuple", .free "list", .free "range", .free "zip", .free "enumerate", .free "dict", .free "sorted"]
def fa4 : List He.Fa := [.free "bool", .free "str", .int "MOST_NUMBER" 999999999, .int "MOST_LENGTH" 1500, .int "MOST_DEPTH" 60, .glo "CORE", .glo "LOOKED_AT", .glo "LEAVES", .glo "TooGreat", .exc "TooGreat", .exm "TooGreat" "TooGreat" true]
def fa : List He.Fa := fa1 ++ (fa2 ++ (fa3 ++ (fa4)))
def fn1 : List He.DefD := [dd "words_of" (hTop 6) [], dd "length_by" (hTop 8) [], dd "depth_by" (hTop 9) [], dd "parts_with_names" (hTop 10) [], dd "names_met" (hTop 11) [], dd "free_by" (hTop 12) [], dd "ats_met" (hTop 13) [], dd "ats_by" (hTop 14) [], dd "led_name" (hTop 15) [], dd "led_by" (hTop 16) [.int 0], dd "put_in_by" (hTop 17) [.int 0], dd "put_length" (hTop 18) [.int 0], dd "put_depth" (hTop 19) [.int 0], dd "part_by" (hTop 20) [], dd "replaced_by" (hTop 21) [], dd "ats_led_by" (hTop 22) [], dd "is_value_by" (hTop 23) [], dd "is_whole" (hTop 25) [], dd "is_count" (hTop 26) [], dd "is_number" (hTop 28) [], dd "is_leaf" (hTop 29) [], dd "is_patterned" (hTop 30) [], dd "is_closed_term" (hTop 31) [], dd "is_sourced" (hTop 32) [], dd "is_programmed" (hTop 33) [], dd "are_fitting" (hTop 34) [], dd "check_program" (hTop 41) [], dd "check_number" (hTop 42) [], dd "met_by" (hTop 45) [], dd "tidied_by" (hTop 46) []]
def fn2 : List He.DefD := [dd "place_by" (hTop 47) [], dd "summed" (hTop 48) [], dd "fault_of" (hTop 49) [], dd "called" (hTop 50) [], dd "made" (hTop 51) [], dd "outcome_by" (hTop 52) [], dd "next_by" (hTop 53) [], dd "next_tidied" (hTop 54) [], dd "go_on" (hTop 56) [], dd "_law_well" (hTop 58) [], dd "_law_draw" (hTop 59) [], dd "_law_pick" (hTop 60) [], dd "_law_same" (hTop 61) [], dd "_law_names" (hTop 62) [], dd "_law_length" (hTop 63) [], dd "_law_depth" (hTop 64) [], dd "_law_is_great" (hTop 65) [], dd "_law_way" (hTop 66) [], dd "_law_led" (hTop 67) [], dd "_law_put_in" (hTop 68) [], dd "_law_part_at" (hTop 69) [], dd "_law_replaced" (hTop 70) [], dd "_law_ats" (hTop 71) [], dd "_law_met" (hTop 72) [], dd "_law_renumbered" (hTop 73) [], dd "_law_tidied" (hTop 74) [], dd "_law_is_value" (hTop 75) [], dd "_law_place" (hTop 76) [], dd "_law_reckoned" (hTop 77) [], dd "_law_here" (hTop 78) []]
def fn3 : List He.DefD := [dd "_law_next" (hTop 79) [], dd "_law_number" (hTop 80) [], dd "_law_leaf" (hTop 81) [], dd "_law_again" (hTop 82) [], dd "_law_part" (hTop 83) [], dd "_law_sum" (hTop 84) [], dd "_law_turn" (hTop 85) [], dd "_law_loop" (hTop 86) [], dd "_law_value" (hTop 87) [], dd "_law_program" (hTop 88) [], dd "_law_jumbled" (hTop 89) [], dd "_law_tried" (hTop 90) [], dd "_law_gone" (hTop 91) [], dd "law" (hTop 92) []]
def fn : List He.DefD := fn1 ++ (fn2 ++ (fn3))
def loose1 : List PySem.Str := ["MOST_NUMBER", "MOST_LENGTH", "MOST_DEPTH", "CORE", "LEAVES", "words_of", "length_by", "depth_by", "parts_with_names", "names_met", "free_by", "ats_met", "ats_by", "led_name", "led_by", "put_in_by", "put_length", "put_depth", "part_by", "replaced_by", "ats_led_by", "is_value_by", "is_whole", "is_count", "is_number", "is_leaf", "is_patterned", "is_closed_term", "is_sourced", "is_programmed"]
def loose2 : List PySem.Str := ["are_fitting", "FormError", "InvalidProgram", "InvalidNumber", "TooGreat", "check_program", "check_number", "LOOKED_AT", "met_by", "tidied_by", "place_by", "summed", "fault_of", "called", "made", "outcome_by", "next_by", "next_tidied", "go_on", "_law_well", "_law_draw", "_law_pick", "_law_same", "_law_names", "_law_length", "_law_depth", "_law_is_great", "_law_way", "_law_led", "_law_put_in"]
def loose3 : List PySem.Str := ["_law_part_at", "_law_replaced", "_law_ats", "_law_met", "_law_renumbered", "_law_tidied", "_law_is_value", "_law_place", "_law_reckoned", "_law_here", "_law_next", "_law_number", "_law_leaf", "_law_again", "_law_part", "_law_sum", "_law_turn", "_law_loop", "_law_value", "_law_program", "_law_jumbled", "_law_tried", "_law_gone"]
def loose : List PySem.Str := loose1 ++ (loose2 ++ (loose3))
def hCore : List (Str × List Int) := [("fn", [1]), ("again", [2]), ("call", [0, 0]), ("pair", [0, 0]), ("plus", [0, 0]), ("minus", [0, 0]), ("times", [0, 0]), ("put", [0, 0]), ("first", [0]), ("second", [0]), ("box", [0]), ("look", [0]), ("say", [0]), ("test", [0, 0, 0])]
def hLook : List (Str × List Int) := [("call", [0, 1]), ("pair", [0, 1]), ("plus", [0, 1]), ("minus", [0, 1]), ("times", [0, 1]), ("put", [0, 1]), ("first", [0]), ("second", [0]), ("box", [0]), ("look", [0]), ("say", [0]), ("test", [0])]
/-- a written tuple of numbers, looked at -/
def ktB (K : PySem.W.Frag) (a : Addr) (ns : List Int) : Bool := match K.lookup a with
  | some ⟨.type c, _, .seq us _, _⟩ => decide (c = "tuple" ∧ us.size ≤ sizeLine) && He.relAll (ns.map V.int) us.toList
  | _ => false
def coreAll (K : PySem.W.Frag) : List DictEntry → List (Str × List Int) → Bool
  | [], [] => true
  | e :: es, q :: qs => (match e.key, e.val with
    | .str z _, .ref a => decide (z = q.1) && ktB K a q.2
    | _, _ => false) && coreAll K es qs
  | _, _ => false
def coreB (K : PySem.W.Frag) : Bool := match K.lookup (He.ga K "CORE") with
  | some ⟨_, _, .dict es _, _⟩ => coreAll K es.toList hCore
  | _ => false
def lookB (K : PySem.W.Frag) : Bool := hLook.all fun q => match PySem.W.nsIn K (He.ga K "LOOKED_AT") q.1 with
  | some (some (.ref a)) => ktB K a q.2
  | _ => false
def exB (K : PySem.W.Frag) : Bool := He.tupB K "LEAVES" [.str "number", .str "name", .str "at", .str "hole"] && (coreB K && lookB K)
def ts : List He.Tab := [(fun K => He.ga K "CORE", hCore.map (·.1)), (fun K => He.ga K "LOOKED_AT", hLook.map (·.1))]
def tf : List He.Defn := [("law", none)]
abbrev RR : PySem.W.OpenRow := PySem.W.OpenLaw.row PySem.Challenge.rw_formstead_k24_whole_n_steps_and_m_steps
abbrev hk : PySem.W.Hook := He.hookX 4 fa fn ts tf exB
def ob (s : PySem.W.SharedT) : He.AlX := He.obsX 4 fa fn ts tf exB (HandSHeadRun.getT s)
theorem ob_eq (s : PySem.W.SharedT) : ob s = hk.obs s.abs := He.obsX_eq (HandSHeadRun.getT_eq s)
end FS
set_option maxHeartbeats 0
/-! The head: the run. -/
namespace FS
open PySem PySem.Spec PyProof.Rows L2
theorem runF (w : World) : HandSHeadRun.RunEq RR (PySem.W.view RR.prog [92]) hk ob 9000 loose (w.withFollow "special-get-raises" false) := by
  intro os
  kernel_rfl
theorem runT (w : World) : HandSHeadRun.RunEq RR (PySem.W.view RR.prog [92]) hk ob 9000 loose (w.withFollow "special-get-raises" true) := by
  intro os
  kernel_rfl
theorem runH (w : World) : HandSHeadRun.RunEq RR (PySem.W.view RR.prog [92]) hk ob 9000 loose w := PySem.W.byRow2 "special-get-raises" (P := fun w => HandSHeadRun.RunEq RR (PySem.W.view RR.prog [92]) hk ob 9000 loose w) runF runT w
end FS
set_option maxHeartbeats 4000000
/-! The data layer: tuples, numbers and texts as trees; lists and dicts that change as a store. -/
namespace FS
open PySem PySem.Spec PyProof.Rows L2

/-- data: a tree of tuples; adr: an object that may change (a list, a dict) or that one does not look into; core: the dict of the core words -/
inductive Dv where
  | non | bl (b : Bool) | int (i : Int) | str (x : Str) | tup (xs : List Dv) | adr (a : Addr) | ty (n : String) | core | frl (ns : List Int)

/-- a tuple of the written part -/
def KTup (K : PySem.W.Frag) (a : Addr) (xs : List V) : Prop := ∀ H, SqT K H a xs
/-- the pairs of the dict of the core words -/
def CoreKV (K : PySem.W.Frag) (kvs : List (Key × V)) (tab : List (Str × List Int)) : Prop :=
  Paired (fun (p : Key × V) (q : Str × List Int) => p.1 = .inr q.1 ∧ ∃ a, p.2 = .ref a ∧ KTup K a (q.2.map .int)) kvs tab
/-- the script's list, or one of the written part: never changed -/
def FrzL (K : PySem.W.Frag) (H : Hp) (a : Addr) (ns : List Int) : Prop := (∃ o, H a = some (.frz o (.lst (ns.map V.int)))) ∨ ∀ H', SqL K H' a (ns.map V.int)
theorem FrzL.sq {K : PySem.W.Frag} {H : Hp} {a : Addr} {ns : List Int} (h : FrzL K H a ns) : SqL K H a (ns.map V.int) := h.elim (fun ⟨o, h⟩ => .inl (.inr ⟨o, h⟩)) fun h => h H
def coreTab : List (Str × List Int) := [("fn", [1]), ("again", [2]), ("call", [0, 0]), ("pair", [0, 0]), ("plus", [0, 0]), ("minus", [0, 0]), ("times", [0, 0]), ("put", [0, 0]),
  ("first", [0]), ("second", [0]), ("box", [0]), ("look", [0]), ("say", [0]), ("test", [0, 0, 0])]

mutual
inductive DAt (K : PySem.W.Frag) (H : Hp) : V → Dv → Prop
  | non : DAt K H .non .non
  | bl (b : Bool) : DAt K H (.bl b) (.bl b)
  | int (i : Int) : DAt K H (.int i) (.int i)
  | str (x : Str) : DAt K H (.str x) (.str x)
  | tup {a : Addr} {xs : List V} {ds : List Dv} : SqT K H a xs → DAts K H xs ds → DAt K H (.ref a) (.tup ds)
  | adr (a : Addr) : DAt K H (.ref a) (.adr a)
  | ty (n : String) : DAt K H (.ty n) (.ty n)
  | core {a : Addr} {kvs : List (Key × V)} : H a = some (.dK kvs) → CoreKV K kvs coreTab → DAt K H (.ref a) .core
  | frl {a : Addr} {ns : List Int} : FrzL K H a ns → DAt K H (.ref a) (.frl ns)
inductive DAts (K : PySem.W.Frag) (H : Hp) : List V → List Dv → Prop
  | nil : DAts K H [] []
  | cons {v : V} {vs : List V} {d : Dv} {ds : List Dv} : DAt K H v d → DAts K H vs ds → DAts K H (v :: vs) (d :: ds)
end

/-- the table of the law's own code: its lambdas' code objects bear this name -/
def lawT (K : PySem.W.Frag) : List (Addr × Str) := [((He.cT K ("law", none)).2, "law.<locals>.<lambda>")]
theorem tabs_upd {T : List (Addr × Str)} {H : Hp} {p : Addr} {u o : HO} (h : H p = some u) (h1 : ∀ ps, u ≠ .tbl ps) (h2 : ∀ c q, u ≠ LamX.CodeO c q) (t : LamX.Tabs T H) : LamX.Tabs T (upd H p o) := fun r hr => by
  obtain ⟨ps, g1, g2, g3⟩ := t r hr
  have ne : r.1 ≠ p := fun e => by
    rw [e, h] at g1
    exact h1 ps (Option.some.inj g1)
  refine ⟨ps, by rw [upd_ne ne]; exact g1, g2, fun pos cv hc => ?_⟩
  obtain ⟨c, rfl, g4⟩ := g3 pos cv hc
  have ne2 : c ≠ p := fun e => by
    rw [e, h] at g4
    exact h2 _ _ (Option.some.inj g4)
  exact ⟨c, rfl, by rw [upd_ne ne2]; exact g4⟩
/-- tuples and the dict of core words stay -/
structure ETx (K : PySem.W.Frag) (H H' : Hp) : Prop where
  tab : LamX.Tabs (lawT K) H → LamX.Tabs (lawT K) H'
  tup : ∀ a xs, Rd H a (.tup xs) → Rd H' a (.tup xs)
  core : ∀ a kvs, CoreKV K kvs coreTab → H a = some (.dK kvs) → H' a = some (.dK kvs)
  frz : ∀ a o u, H a = some (.frz o u) → H' a = some (.frz o u)
theorem ETx.refl {K : PySem.W.Frag} {H : Hp} : ETx K H H := ⟨fun h => h, fun _ _ h => h, fun _ _ _ h => h, fun _ _ _ h => h⟩
theorem ETx.trans {K : PySem.W.Frag} {H H1 H2 : Hp} (a : ETx K H H1) (b : ETx K H1 H2) : ETx K H H2 :=
  ⟨fun h => b.tab (a.tab h), fun p xs h => b.tup p xs (a.tup p xs h), fun p kvs c h => b.core p kvs c (a.core p kvs c h), fun p o u h => b.frz p o u (a.frz p o u h)⟩
theorem ETx.of {K : PySem.W.Frag} {H H' : Hp} (e : ∀ a o, H a = some o → H' a = some o) : ETx K H H' :=
  ⟨fun t => t.ext e, fun a xs h => h.elim (fun h => .inl (e _ _ h)) fun ⟨o, h⟩ => .inr ⟨o, e _ _ h⟩, fun a kvs _ h => e _ _ h, fun _ _ _ h => e _ _ h⟩
theorem ETx.new {K : PySem.W.Frag} {H : Hp} {p : Addr} {o : HO} (h : H p = none) : ETx K H (upd H p o) := .of fun a u e => by
  rw [upd_ne (ne_of_none e h)]
  exact e
/-- a list, or a dict that is not that of the core words, is changed -/
theorem ETx.lst {K : PySem.W.Frag} {H : Hp} {p : Addr} {xs : List V} {o : HO} (h : H p = some (.lst xs)) : ETx K H (upd H p o) := by
  refine ⟨tabs_upd h (fun _ => HO.noConfusion) (fun _ _ => HO.noConfusion), fun a ys q => ?_, fun a kvs _ q => ?_, fun a ob u q => by
    have ne : a ≠ p := fun e => by
      rw [e, h] at q
      cases q
    rw [upd_ne ne]
    exact q⟩
  · rcases q with q | ⟨ob, q⟩
    · have ne : a ≠ p := fun e => by
        rw [e, h] at q
        cases q
      exact .inl (by rw [upd_ne ne]; exact q)
    · have ne : a ≠ p := fun e => by
        rw [e, h] at q
        cases q
      exact .inr ⟨ob, by rw [upd_ne ne]; exact q⟩
  · have ne : a ≠ p := fun e => by
      rw [e, h] at q
      cases q
    rw [upd_ne ne]
    exact q
theorem ETx.dct {K : PySem.W.Frag} {H : Hp} {p : Addr} {kvs : List (Key × V)} {o : HO} (h : H p = some (.dK kvs)) (nc : ¬ CoreKV K kvs coreTab) : ETx K H (upd H p o) := by
  refine ⟨tabs_upd h (fun _ => HO.noConfusion) (fun _ _ => HO.noConfusion), fun a ys q => ?_, fun a kvs' c q => ?_, fun a ob u q => by
    have ne : a ≠ p := fun e => by
      rw [e, h] at q
      cases q
    rw [upd_ne ne]
    exact q⟩
  · rcases q with q | ⟨ob, q⟩
    · have ne : a ≠ p := fun e => by
        rw [e, h] at q
        cases q
      exact .inl (by rw [upd_ne ne]; exact q)
    · have ne : a ≠ p := fun e => by
        rw [e, h] at q
        cases q
      exact .inr ⟨ob, by rw [upd_ne ne]; exact q⟩
  · have ne : a ≠ p := fun e => by
      rw [e, h] at q
      cases q
      exact nc c
    rw [upd_ne ne]
    exact q
section
variable {K : PySem.W.Frag} {H H' : Hp}
theorem SqT.etx {a : Addr} {xs : List V} (e : ETx K H H') (h : SqT K H a xs) : SqT K H' a xs := h.elim (fun h => .inl (e.tup a xs h)) .inr
mutual
theorem DAt.mono (e : ETx K H H') : ∀ {v : V} {d : Dv}, DAt K H v d → DAt K H' v d
  | _, _, .non => .non
  | _, _, .bl b => .bl b
  | _, _, .int i => .int i
  | _, _, .str x => .str x
  | _, _, .tup h hs => .tup (SqT.etx e h) (DAts.mono e hs)
  | _, _, .adr a => .adr a
  | _, _, .ty n => .ty n
  | _, _, .core h c => .core (e.core _ _ c h) c
  | _, _, .frl h => .frl (h.elim (fun ⟨o, h⟩ => .inl ⟨o, e.frz _ _ _ h⟩) .inr)
theorem DAts.mono (e : ETx K H H') : ∀ {vs : List V} {ds : List Dv}, DAts K H vs ds → DAts K H' vs ds
  | _, _, .nil => .nil
  | _, _, .cons h t => .cons (DAt.mono e h) (DAts.mono e t)
end
theorem DAts.length : ∀ {vs : List V} {ds : List Dv}, DAts K H vs ds → vs.length = ds.length
  | _, _, .nil => rfl
  | _, _, .cons _ t => congrArg Nat.succ (DAts.length t)
theorem DAts.get : ∀ {vs : List V} {ds : List Dv} {i : Nat} {d : Dv}, DAts K H vs ds → ds[i]? = some d → ∃ v, vs[i]? = some v ∧ DAt K H v d
  | _, _, _, _, .nil, e => by simp at e
  | _, _, 0, _, .cons h _, e => by
    simp at e
    subst e
    exact ⟨_, rfl, h⟩
  | _, _, i + 1, _, .cons _ t, e => by
    obtain ⟨v, h1, h2⟩ := DAts.get (i := i) t (by simpa using e)
    exact ⟨v, by simpa using h1, h2⟩
theorem DAts.get' : ∀ {vs : List V} {ds : List Dv} {i : Nat} {v : V}, DAts K H vs ds → vs[i]? = some v → ∃ d, ds[i]? = some d ∧ DAt K H v d
  | _, _, _, _, .nil, e => by simp at e
  | _, _, 0, _, .cons h _, e => by
    simp at e
    subst e
    exact ⟨_, rfl, h⟩
  | _, _, i + 1, _, .cons _ t, e => by
    obtain ⟨v, h1, h2⟩ := DAts.get' (i := i) t (by simpa using e)
    exact ⟨v, by simpa using h1, h2⟩
theorem DAts.append : ∀ {vs ws : List V} {ds es : List Dv}, DAts K H vs ds → DAts K H ws es → DAts K H (vs ++ ws) (ds ++ es)
  | _, _, _, _, .nil, s => s
  | _, _, _, _, .cons h t, s => .cons h (DAts.append t s)
theorem DAts.drop : ∀ {vs : List V} {ds : List Dv} (n : Nat), DAts K H vs ds → DAts K H (vs.drop n) (ds.drop n)
  | _, _, 0, h => h
  | _, _, _ + 1, .nil => .nil
  | _, _, n + 1, .cons _ t => DAts.drop n t
theorem DAts.take : ∀ {vs : List V} {ds : List Dv} (n : Nat), DAts K H vs ds → DAts K H (vs.take n) (ds.take n)
  | _, _, 0, _ => .nil
  | _, _, _ + 1, .nil => .nil
  | _, _, n + 1, .cons h t => .cons h (DAts.take n t)
theorem DAts.set {v : V} {d : Dv} (r : DAt K H v d) : ∀ {vs : List V} {ds : List Dv} (i : Nat), DAts K H vs ds → DAts K H (vs.set i v) (ds.set i d)
  | _, _, _, .nil => .nil
  | _, _, 0, .cons _ t => .cons r t
  | _, _, i + 1, .cons h t => .cons h (DAts.set r i t)
theorem DAts.dropLast {vs : List V} {ds : List Dv} (h : DAts K H vs ds) : DAts K H vs.dropLast ds.dropLast := by
  rw [List.dropLast_eq_take, List.dropLast_eq_take, h.length]
  exact h.take _
theorem DAts.eraseIdx : ∀ {vs : List V} {ds : List Dv} (i : Nat), DAts K H vs ds → DAts K H (vs.eraseIdx i) (ds.eraseIdx i)
  | _, _, _, .nil => .nil
  | _, _, 0, .cons _ t => t
  | _, _, i + 1, .cons h t => .cons h (DAts.eraseIdx i t)
end

/-! ### the store -/
inductive DObj where
  | lst (xs : List Dv)
  | dct (kvs : List (Key × Dv))
abbrev Mm := Addr → Option DObj
def mupd (M : Mm) (a : Addr) (o : DObj) : Mm := fun b => if b = a then some o else M b
theorem mupd_same {M : Mm} {a : Addr} {o : DObj} : mupd M a o a = some o := by unfold mupd; rw [if_pos rfl]
theorem mupd_ne {M : Mm} {a b : Addr} {o : DObj} (h : b ≠ a) : mupd M a o b = M b := by unfold mupd; rw [if_neg h]
theorem mupd_mupd {M : Mm} {a : Addr} {o u : DObj} : mupd (mupd M a o) a u = mupd M a u := by
  funext b; unfold mupd; split <;> rfl
def MEx (M M' : Mm) : Prop := ∀ a o, M a = some o → M' a = some o
theorem MEx.refl {M : Mm} : MEx M M := fun _ _ h => h
theorem MEx.trans {M M1 M2 : Mm} (a : MEx M M1) (b : MEx M1 M2) : MEx M M2 := fun x o h => b x o (a x o h)
theorem MEx.new {M : Mm} {p : Addr} {o : DObj} (h : M p = none) : MEx M (mupd M p o) := fun a u e => by
  have ne : a ≠ p := fun z => by
    rw [z, h] at e
    cases e
  rw [mupd_ne ne]
  exact e
def HOAt (K : PySem.W.Frag) (H : Hp) (a : Addr) : DObj → Prop
  | .lst ds => ∃ vs, H a = some (.lst vs) ∧ DAts K H vs ds
  | .dct kvs => ∃ vs : List (Key × V), H a = some (.dK vs) ∧ Paired (fun (p : Key × V) (q : Key × Dv) => p.1 = q.1 ∧ DAt K H p.2 q.2) vs kvs ∧ ¬ CoreKV K vs coreTab
def MAt (K : PySem.W.Frag) (H : Hp) (M : Mm) : Prop := ∀ a o, M a = some o → HOAt K H a o
theorem paired_mono {α β : Type} {F G : α → β → Prop} (f : ∀ a b, F a b → G a b) : ∀ {l : List α} {m : List β}, Paired F l m → Paired G l m
  | _, _, .nil => .nil
  | _, _, .cons h t => .cons (f _ _ h) (paired_mono f t)
theorem HOAt.keep {K : PySem.W.Frag} {H H' : Hp} {a : Addr} {o : DObj} (e : ETx K H H') (k : ∀ u, H a = some u → H' a = some u) (h : HOAt K H a o) : HOAt K H' a o := by
  cases o with
  | lst ds =>
    obtain ⟨vs, h1, h2⟩ := h
    exact ⟨vs, k _ h1, h2.mono e⟩
  | dct kvs =>
    obtain ⟨vs, h1, h2, h3⟩ := h
    exact ⟨vs, k _ h1, paired_mono (fun a b q => ⟨q.1, q.2.mono e⟩) h2, h3⟩
theorem MAt.none {K : PySem.W.Frag} {H : Hp} {M : Mm} {p : Addr} (h : MAt K H M) (n : H p = none) : M p = none := by
  cases q : M p with
  | none => rfl
  | some o =>
    have z := h p o q
    cases o with
    | lst ds =>
      obtain ⟨vs, e, _⟩ := z
      rw [n] at e
      cases e
    | dct kvs =>
      obtain ⟨vs, e, _⟩ := z
      rw [n] at e
      cases e
/-- a heap that grew -/
theorem MAt.grow {K : PySem.W.Frag} {H H' : Hp} {M : Mm} (h : MAt K H M) (e : ∀ a o, H a = some o → H' a = some o) : MAt K H' M := fun a o q => (h a o q).keep (.of e) fun u => e a u
/-- an object of the store is changed, or laid -/
theorem MAt.put {K : PySem.W.Frag} {H : Hp} {M : Mm} {p : Addr} {u : HO} {o : DObj} (h : MAt K H M) (e : ETx K H (upd H p u)) (n : HOAt K (upd H p u) p o) : MAt K (upd H p u) (mupd M p o) := fun a o' q => by
  by_cases z : a = p
  · subst z
    rw [mupd_same] at q
    cases q
    exact n
  · rw [mupd_ne z] at q
    exact (h a o' q).keep e fun x hx => by
      rw [upd_ne z]
      exact hx
theorem MAt.of {K : PySem.W.Frag} {H : Hp} {M M' : Mm} (h : MAt K H M') (e : MEx M M') : MAt K H M := fun a o q => h a o (e a o q)

/-! ### what a reading does, over data -/
abbrev EnvD := List (Option Dv)
structure EnvAt (K : PySem.W.Frag) (H : Hp) (σ : L2.St) (ds : EnvD) : Prop where
  len : σ.length = ds.length
  at' : ∀ (i : Nat) (d : Dv), ds[i]? = some (some d) → ∃ v, σ[i]? = some (some v) ∧ DAt K H v d
theorem EnvAt.mono {K : PySem.W.Frag} {H H' : Hp} {σ : L2.St} {ds : EnvD} (h : EnvAt K H σ ds) (e : ETx K H H') : EnvAt K H' σ ds :=
  ⟨h.len, fun i d q => let ⟨v, a, b⟩ := h.at' i d q; ⟨v, a, b.mono e⟩⟩
theorem EnvAt.set {K : PySem.W.Frag} {H : Hp} {σ : L2.St} {ds : EnvD} {i : Nat} {v : V} {d : Dv} (h : EnvAt K H σ ds) (r : DAt K H v d) : EnvAt K H (σ.set i (some v)) (ds.set i (some d)) := by
  refine ⟨by rw [List.length_set, List.length_set]; exact h.len, fun j e q => ?_⟩
  by_cases hj : i = j
  · subst hj
    have hi : i < ds.length := by
      obtain ⟨z, _⟩ := List.getElem?_eq_some_iff.mp q
      rw [List.length_set] at z
      exact z
    rw [List.getElem?_set_self hi] at q
    cases q
    exact ⟨v, by rw [List.getElem?_set_self (by rw [h.len]; exact hi)], r⟩
  · rw [List.getElem?_set_ne hj] at q
    obtain ⟨w, a, b⟩ := h.at' j e q
    exact ⟨w, by rw [List.getElem?_set_ne hj]; exact a, b⟩
theorem EnvAt.unset {K : PySem.W.Frag} {H : Hp} {σ : L2.St} {ds : EnvD} {i : Nat} (h : EnvAt K H σ ds) : EnvAt K H (σ.set i none) (ds.set i none) := by
  refine ⟨by rw [List.length_set, List.length_set]; exact h.len, fun j e q => ?_⟩
  by_cases hj : i = j
  · subst hj
    have hi : i < ds.length := by
      obtain ⟨z, _⟩ := List.getElem?_eq_some_iff.mp q
      rw [List.length_set] at z
      exact z
    rw [List.getElem?_set_self hi] at q
    cases q
  · rw [List.getElem?_set_ne hj] at q
    obtain ⟨w, a, b⟩ := h.at' j e q
    exact ⟨w, by rw [List.getElem?_set_ne hj]; exact a, b⟩
def wipeD (ds : EnvD) : List Nat → EnvD
  | [] => ds
  | v :: vs => (wipeD ds vs).set v none
theorem EnvAt.wipe {K : PySem.W.Frag} {H : Hp} {σ : L2.St} {ds : EnvD} (h : EnvAt K H σ ds) : ∀ vs : List Nat, EnvAt K H (wipe σ vs) (wipeD ds vs)
  | [] => h
  | v :: vs => (EnvAt.wipe h vs).unset

section
variable (K : PySem.W.Frag)
structure WE (te : TE) (ds : EnvD) (M : Mm) (Q : Dv → Mm → Prop) : Prop where
  run : ∀ σ H, EnvAt K H σ ds → MAt K H M → ∀ R : VK, (∀ v H' d M', ETx K H H' → MAt K H' M' → DAt K H' v d → Q d M' → R v H') → te σ H R
structure WT (tt : TT) (ds : EnvD) (M : Mm) (Q : Bool → Mm → Prop) : Prop where
  run : ∀ σ H, EnvAt K H σ ds → MAt K H M → ∀ R : Bool → Hp → Prop, (∀ b H' M', ETx K H H' → MAt K H' M' → Q b M' → R b H') → tt σ H R
structure WA (ta : TA) (ds : EnvD) (M : Mm) (Q : List Dv → Mm → Prop) : Prop where
  run : ∀ σ H, EnvAt K H σ ds → MAt K H M → ∀ R : List V → Hp → Prop, (∀ vs H' es M', ETx K H H' → MAt K H' M' → DAts K H' vs es → Q es M' → R vs H') → ta σ H R
structure WO (to : TO) (ds : EnvD) (M : Mm) (Q : Option Int → Mm → Prop) : Prop where
  run : ∀ σ H, EnvAt K H σ ds → MAt K H M → ∀ R : Option Int → Hp → Prop, (∀ o H' M', ETx K H H' → MAt K H' M' → Q o M' → R o H') → to σ H R
structure DEnds where
  nx : EnvD → Mm → Prop
  rt : Dv → Mm → Prop
  bk : EnvD → Mm → Prop := fun _ _ => False
  ct : EnvD → Mm → Prop := fun _ _ => False
/-- real ends serve data's ends from H on -/
structure Serves (H : Hp) (D : DEnds) (R : Ends) : Prop where
  nx : ∀ σ' H' ds' M', ETx K H H' → EnvAt K H' σ' ds' → MAt K H' M' → D.nx ds' M' → R.nx σ' H'
  rt : ∀ v H' d M', ETx K H H' → MAt K H' M' → DAt K H' v d → D.rt d M' → R.rt v H'
  bk : ∀ σ' H' ds' M', ETx K H H' → EnvAt K H' σ' ds' → MAt K H' M' → D.bk ds' M' → R.bk σ' H'
  ct : ∀ σ' H' ds' M', ETx K H H' → EnvAt K H' σ' ds' → MAt K H' M' → D.ct ds' M' → R.ct σ' H'
structure WS (ts : TS) (ds : EnvD) (M : Mm) (D : DEnds) : Prop where
  run : ∀ σ H, EnvAt K H σ ds → MAt K H M → ∀ R : Ends, Serves K H D R → ts R σ H
structure WG (g : TG) (x : Dv) (ds : EnvD) (M : Mm) (Q : EnvD → Mm → Prop) : Prop where
  run : ∀ v σ H, DAt K H v x → EnvAt K H σ ds → MAt K H M → ∀ R : L2.St → Hp → Prop, (∀ σ' H' ds' M', ETx K H H' → EnvAt K H' σ' ds' → MAt K H' M' → Q ds' M' → R σ' H') → g v σ H R
structure WGs (g : TGs) (xs : List Dv) (ds : EnvD) (M : Mm) (Q : EnvD → Mm → Prop) : Prop where
  run : ∀ vs σ H, DAts K H vs xs → EnvAt K H σ ds → MAt K H M → ∀ R : L2.St → Hp → Prop, (∀ σ' H' ds' M', ETx K H H' → EnvAt K H' σ' ds' → MAt K H' M' → Q ds' M' → R σ' H') → g vs σ H R
/-- an operation by values -/
structure RV (r : R2) (x y : Dv) (M : Mm) (Q : Dv → Mm → Prop) : Prop where
  run : ∀ v w H, DAt K H v x → DAt K H w y → MAt K H M → ∀ R : VK, (∀ u H' d M', ETx K H H' → MAt K H' M' → DAt K H' u d → Q d M' → R u H') → r v w H R
structure RU (r : V → Hp → VK → Prop) (x : Dv) (M : Mm) (Q : Dv → Mm → Prop) : Prop where
  run : ∀ v H, DAt K H v x → MAt K H M → ∀ R : VK, (∀ u H' d M', ETx K H H' → MAt K H' M' → DAt K H' u d → Q d M' → R u H') → r v H R
structure RL (r : List V → Hp → VK → Prop) (xs : List Dv) (M : Mm) (Q : Dv → Mm → Prop) : Prop where
  run : ∀ vs H, DAts K H vs xs → MAt K H M → ∀ R : VK, (∀ u H' d M', ETx K H H' → MAt K H' M' → DAt K H' u d → Q d M' → R u H') → r vs H R
end
end FS
set_option maxHeartbeats 4000000
/-! The data layer's rules: expressions, tests, argument lists, operations. -/
namespace FS
open PySem PySem.Spec PyProof.Rows L2
section
variable {K : PySem.W.Frag} {ds : EnvD} {M : Mm} {Q : Dv → Mm → Prop} {QT : Bool → Mm → Prop} {QA : List Dv → Mm → Prop} {QO : Option Int → Mm → Prop} {te ta tb tc : TE} {tt tu : TT} {t u : TA} {d x y : Dv} {i : Nat} {r r' : R2}

/-! ### names, constants -/
theorem we_var (h : ds[i]? = some (some d)) (q : Q d M) : WE K (tVar i) ds M Q := ⟨fun σ H hE hM R k => by
  obtain ⟨v, h1, h2⟩ := hE.at' i d h
  exact ⟨v, h1, k v H d M .refl hM h2 q⟩⟩
theorem we_int {n : Int} (q : Q (.int n) M) : WE K (tC (.int n)) ds M Q := ⟨fun σ H hE hM R k => k _ H _ M .refl hM (.int n) q⟩
theorem we_str {z : Str} (q : Q (.str z) M) : WE K (tC (.str z)) ds M Q := ⟨fun σ H hE hM R k => k _ H _ M .refl hM (.str z) q⟩
theorem we_bl {b : Bool} (q : Q (.bl b) M) : WE K (tC (.bl b)) ds M Q := ⟨fun σ H hE hM R k => k _ H _ M .refl hM (.bl b) q⟩
theorem we_non (q : Q .non M) : WE K (tC .non) ds M Q := ⟨fun σ H hE hM R k => k _ H _ M .refl hM .non q⟩
theorem we_ty {n : String} (q : Q (.ty n) M) : WE K (tC (.ty n)) ds M Q := ⟨fun σ H hE hM R k => k _ H _ M .refl hM (.ty n) q⟩
theorem we_c {v : V} (h : ∀ H, DAt K H v d) (q : Q d M) : WE K (tC v) ds M Q := ⟨fun σ H hE hM R k => k _ H _ M .refl hM (h H) q⟩
theorem WE.mono {Q' : Dv → Mm → Prop} (h : WE K te ds M Q) (f : ∀ d M, Q d M → Q' d M) : WE K te ds M Q' := ⟨fun σ H hE hM R k => h.run σ H hE hM R fun v H' d M' e m a q => k v H' d M' e m a (f d M' q)⟩

/-! ### operations -/
theorem we_op (h : WE K ta ds M fun x M1 => WE K tb ds M1 fun y M2 => RV K r x y M2 Q) : WE K (tOp r ta tb) ds M Q := ⟨fun σ H hE hM R k =>
  h.run σ H hE hM _ fun v H1 x M1 e1 m1 a1 q1 => q1.run σ H1 (hE.mono e1) m1 _ fun w H2 y M2 e2 m2 a2 q2 => q2.run v w H2 (a1.mono e2) a2 m2 R fun u H3 d M3 e3 m3 a3 q3 => k u H3 d M3 ((e1.trans e2).trans e3) m3 a3 q3⟩
theorem we_un {r : V → Hp → VK → Prop} (h : WE K ta ds M fun x M1 => RU K r x M1 Q) : WE K (tUn r ta) ds M Q := ⟨fun σ H hE hM R k =>
  h.run σ H hE hM _ fun v H1 x M1 e1 m1 a1 q1 => q1.run v H1 a1 m1 R fun u H3 d M3 e3 m3 a3 q3 => k u H3 d M3 (e1.trans e3) m3 a3 q3⟩
theorem we_then {r : V → Hp → VK → Prop} (h : WE K ta ds M fun x M1 => RU K r x M1 Q) : WE K (tThen ta r) ds M Q := ⟨fun σ H hE hM R k =>
  h.run σ H hE hM _ fun v H1 x M1 e1 m1 a1 q1 => q1.run v H1 a1 m1 R fun u H3 d M3 e3 m3 a3 q3 => k u H3 d M3 (e1.trans e3) m3 a3 q3⟩
/-- a op b op' c -/
theorem we_chain (h : WE K ta ds M fun x M1 => WE K tb ds M1 fun y M2 => RV K r x y M2 fun z M3 => ∃ b, z = .bl b ∧ ((b = true → WE K tc ds M3 fun w M4 => RV K r' y w M4 Q) ∧ (b = false → Q (.bl false) M3))) : WE K (tChain r r' ta tb tc) ds M Q := ⟨fun σ H hE hM R k =>
  h.run σ H hE hM _ fun v H1 x M1 e1 m1 a1 q1 => q1.run σ H1 (hE.mono e1) m1 _ fun w H2 y M2 e2 m2 a2 q2 => q2.run v w H2 (a1.mono e2) a2 m2 _ fun u H3 d M3 e3 m3 a3 q3 => by
    obtain ⟨b, rfl, h1, h2⟩ := q3
    cases a3
    refine ⟨b, rfl, ?_⟩
    cases b with
    | true => exact iteT ((h1 rfl).run σ H3 (hE.mono ((e1.trans e2).trans e3)) m3 _ fun w' H4 y' M4 e4 m4 a4 q4 => q4.run w w' H4 (a2.mono (e3.trans e4)) a4 m4 R fun u5 H5 d5 M5 e5 m5 a5 q5 => k u5 H5 d5 M5 ((((e1.trans e2).trans e3).trans e4).trans e5) m5 a5 q5)
    | false => exact iteF (k _ H3 _ M3 ((e1.trans e2).trans e3) m3 (.bl false) (h2 rfl))⟩

/-! ### displays -/
theorem we_tup (h : WA K t ds M fun xs M1 => xs.length ≤ 1000000 ∧ Q (.tup xs) M1) : WE K (tTup t) ds M Q := ⟨fun σ H hE hM R k =>
  h.run σ H hE hM _ fun vs H1 xs M1 e1 m1 a1 q1 => ⟨Nat.le_trans (by rw [a1.length]; exact q1.1) (by decide), fun p hp => by
    have e2 : ETx K H1 (upd H1 p (.tup vs)) := .new hp
    exact k _ _ _ M1 (e1.trans e2) (m1.grow fun a o z => by rw [upd_ne (ne_of_none z hp)]; exact z) (.tup (SqT.of upd_same) (a1.mono e2)) q1.2⟩⟩
theorem HOAt.ofL {H : Hp} {a : Addr} {vs : List V} {xs : List Dv} (h : H a = some (.lst vs)) (r : DAts K H vs xs) : HOAt K H a (.lst xs) := ⟨vs, h, r⟩
theorem we_lst (h : WA K t ds M fun xs M1 => xs.length ≤ 1000000 ∧ ∀ p, M1 p = none → Q (.adr p) (mupd M1 p (.lst xs))) : WE K (tLst t) ds M Q := ⟨fun σ H hE hM R k =>
  h.run σ H hE hM _ fun vs H1 xs M1 e1 m1 a1 q1 => ⟨Nat.le_trans (by rw [a1.length]; exact q1.1) (by decide), fun p hp => by
    have e2 : ETx K H1 (upd H1 p (.lst vs)) := .new hp
    exact k _ _ _ _ (e1.trans e2) (m1.put e2 (.ofL upd_same (a1.mono e2))) (.adr p) (q1.2 p (m1.none hp))⟩⟩

/-! ### argument lists -/
theorem wa_nil (q : QA [] M) : WA K tNil ds M QA := ⟨fun σ H hE hM R k => k [] H [] M .refl hM .nil q⟩
theorem wa_cons (h : WE K te ds M fun x M1 => WA K t ds M1 fun xs M2 => QA (x :: xs) M2) : WA K (tCons te t) ds M QA := ⟨fun σ H hE hM R k =>
  h.run σ H hE hM _ fun v H1 x M1 e1 m1 a1 q1 => q1.run σ H1 (hE.mono e1) m1 _ fun vs H2 xs M2 e2 m2 a2 q2 => k _ H2 _ M2 (e1.trans e2) m2 (.cons (a1.mono e2) a2) q2⟩
/-- *e, e a tuple -/
theorem wa_starT (h : WE K te ds M fun x M1 => ∃ ys, x = .tup ys ∧ WA K t ds M1 fun xs M2 => QA (ys ++ xs) M2) : WA K (StX.tStar K te t) ds M QA := ⟨fun σ H hE hM R k =>
  h.run σ H hE hM _ fun v H1 x M1 e1 m1 a1 q1 => by
    obtain ⟨ys, rfl, q1⟩ := q1
    cases a1 with
    | tup h1 h2 => exact ⟨_, _, rfl, .inl h1, q1.run σ H1 (hE.mono e1) m1 _ fun vs H2 xs M2 e2 m2 a2 q2 => k _ H2 _ M2 (e1.trans e2) m2 ((h2.mono e2).append a2) q2⟩⟩
/-- *e, e a list -/
theorem wa_starL (h : WE K te ds M fun x M1 => ∃ p ys, x = .adr p ∧ M1 p = some (.lst ys) ∧ WA K t ds M1 fun xs M2 => QA (ys ++ xs) M2) : WA K (StX.tStar K te t) ds M QA := ⟨fun σ H hE hM R k =>
  h.run σ H hE hM _ fun v H1 x M1 e1 m1 a1 q1 => by
    obtain ⟨p, ys, rfl, hp, q1⟩ := q1
    cases a1
    obtain ⟨ws, h1, h2⟩ := m1 p _ hp
    exact ⟨_, _, rfl, .inr (SqL.of h1), q1.run σ H1 (hE.mono e1) m1 _ fun vs H2 xs M2 e2 m2 a2 q2 => k _ H2 _ M2 (e1.trans e2) m2 ((h2.mono e2).append a2) q2⟩⟩

/-! ### tests -/
theorem wt_test (h : WE K te ds M fun x M1 => ∃ b, x = .bl b ∧ QT b M1) : WT K (tTest te) ds M QT := ⟨fun σ H hE hM R k =>
  h.run σ H hE hM _ fun v H1 x M1 e1 m1 a1 q1 => by
    obtain ⟨b, rfl, q1⟩ := q1
    cases a1
    exact ⟨b, rfl, k b H1 M1 e1 m1 q1⟩⟩
theorem wt_B (h : WE K te ds M fun x M1 => ∃ b, x = .bl b ∧ QT b M1) : WT K (tB te) ds M QT := ⟨fun σ H hE hM R k =>
  h.run σ H hE hM _ fun v H1 x M1 e1 m1 a1 q1 => by
    obtain ⟨b, rfl, q1⟩ := q1
    cases a1
    exact ⟨b, rfl, k b H1 M1 e1 m1 q1⟩⟩
theorem wt_not (h : WT K tt ds M fun b M1 => QT (!b) M1) : WT K (tNot tt) ds M QT := ⟨fun σ H hE hM R k => h.run σ H hE hM _ fun b H1 M1 e1 m1 q1 => k _ H1 M1 e1 m1 q1⟩
theorem wt_and (h : WT K tt ds M fun b M1 => (b = true → WT K tu ds M1 QT) ∧ (b = false → QT false M1)) : WT K (tAnd tt tu) ds M QT := ⟨fun σ H hE hM R k => h.run σ H hE hM _ fun b H1 M1 e1 m1 q1 => by
  cases b with
  | true => exact iteT ((q1.1 rfl).run σ H1 (hE.mono e1) m1 R fun c H2 M2 e2 m2 q2 => k c H2 M2 (e1.trans e2) m2 q2)
  | false => exact iteF (k false H1 M1 e1 m1 (q1.2 rfl))⟩
theorem wt_or (h : WT K tt ds M fun b M1 => (b = true → QT true M1) ∧ (b = false → WT K tu ds M1 QT)) : WT K (tOr tt tu) ds M QT := ⟨fun σ H hE hM R k => h.run σ H hE hM _ fun b H1 M1 e1 m1 q1 => by
  cases b with
  | true => exact iteT (k true H1 M1 e1 m1 (q1.1 rfl))
  | false => exact iteF ((q1.2 rfl).run σ H1 (hE.mono e1) m1 R fun c H2 M2 e2 m2 q2 => k c H2 M2 (e1.trans e2) m2 q2)⟩
theorem we_and (h : WE K ta ds M fun x M1 => ∃ b, x = .bl b ∧ (b = true → WE K tb ds M1 Q) ∧ (b = false → Q (.bl false) M1)) : WE K (tAndV ta tb) ds M Q := ⟨fun σ H hE hM R k =>
  h.run σ H hE hM _ fun v H1 x M1 e1 m1 a1 q1 => by
    obtain ⟨b, rfl, q1, q2⟩ := q1
    cases a1
    refine ⟨b, rfl, ?_⟩
    cases b with
    | true => exact iteT ((q1 rfl).run σ H1 (hE.mono e1) m1 R fun c H2 d M2 e2 m2 a2 q2 => k c H2 d M2 (e1.trans e2) m2 a2 q2)
    | false => exact iteF (k _ H1 _ M1 e1 m1 (.bl false) (q2 rfl))⟩
theorem we_or (h : WE K ta ds M fun x M1 => ∃ b, x = .bl b ∧ (b = true → Q (.bl true) M1) ∧ (b = false → WE K tb ds M1 Q)) : WE K (tOrV ta tb) ds M Q := ⟨fun σ H hE hM R k =>
  h.run σ H hE hM _ fun v H1 x M1 e1 m1 a1 q1 => by
    obtain ⟨b, rfl, q1, q2⟩ := q1
    cases a1
    refine ⟨b, rfl, ?_⟩
    cases b with
    | true => exact iteT (k _ H1 _ M1 e1 m1 (.bl true) (q1 rfl))
    | false => exact iteF ((q2 rfl).run σ H1 (hE.mono e1) m1 R fun c H2 d M2 e2 m2 a2 q2 => k c H2 d M2 (e1.trans e2) m2 a2 q2)⟩
theorem we_not (h : WE K ta ds M fun x M1 => ∃ b, x = .bl b ∧ Q (.bl (!b)) M1) : WE K (tNotV ta) ds M Q := ⟨fun σ H hE hM R k =>
  h.run σ H hE hM _ fun v H1 x M1 e1 m1 a1 q1 => by
    obtain ⟨b, rfl, q1⟩ := q1
    cases a1
    exact ⟨b, rfl, k _ H1 _ M1 e1 m1 (.bl _) q1⟩⟩
theorem we_if (h : WT K tt ds M fun b M1 => (b = true → WE K ta ds M1 Q) ∧ (b = false → WE K tb ds M1 Q)) : WE K (tIf tt ta tb) ds M Q := ⟨fun σ H hE hM R k => h.run σ H hE hM _ fun b H1 M1 e1 m1 q1 => by
  cases b with
  | true => exact iteT ((q1.1 rfl).run σ H1 (hE.mono e1) m1 R fun c H2 d M2 e2 m2 a2 q2 => k c H2 d M2 (e1.trans e2) m2 a2 q2)
  | false => exact iteF ((q1.2 rfl).run σ H1 (hE.mono e1) m1 R fun c H2 d M2 e2 m2 a2 q2 => k c H2 d M2 (e1.trans e2) m2 a2 q2)⟩
/-- a list's truth -/
def tTru (K : PySem.W.Frag) (ta : TE) : TT := fun σ H Q => ta σ H fun x H' => ∃ k, TruV K x H' k ∧ Q k H'
theorem wt_truL (h : WE K te ds M fun x M1 => ∃ p ys, x = .adr p ∧ M1 p = some (.lst ys) ∧ QT (!ys.isEmpty) M1) : WT K (fun σ H Q => te σ H fun x H' => ∃ k, TruV K x H' k ∧ Q k H') ds M QT := ⟨fun σ H hE hM R k =>
  h.run σ H hE hM _ fun v H1 x M1 e1 m1 a1 q1 => by
    obtain ⟨p, ys, rfl, hp, q1⟩ := q1
    cases a1
    obtain ⟨ws, h1, h2⟩ := m1 p _ hp
    refine ⟨!ys.isEmpty, .inl ⟨ws, SqL.of h1, ?_⟩, k _ H1 M1 e1 m1 q1⟩
    cases h2 <;> rfl⟩

/-! ### calls -/
theorem we_cb {r : List V → Hp → VK → Prop} (h : WA K t ds M fun xs M1 => RL K r xs M1 Q) : WE K (tCB r t) ds M Q := ⟨fun σ H hE hM R k =>
  h.run σ H hE hM _ fun vs H1 xs M1 e1 m1 a1 q1 => q1.run vs H1 a1 m1 R fun u H3 d M3 e3 m3 a3 q3 => k u H3 d M3 (e1.trans e3) m3 a3 q3⟩
/-- a def's promise over data -/
abbrev SpD := List Dv → Mm → (Dv → Mm → Prop) → Prop
def toSp (K : PySem.W.Frag) (S : SpD) : Sp := fun vs H R _ => ∃ xs M Q, DAts K H vs xs ∧ MAt K H M ∧ S xs M Q ∧ ∀ v H' d M', ETx K H H' → MAt K H' M' → DAt K H' v d → Q d M' → R v H'
theorem we_call {S : SpD} {dvs : List V} {dxs : List Dv} {E : XK} (hd : ∀ H, DAts K H dvs dxs) (h : WA K t ds M fun xs M1 => S (xs ++ dxs) M1 Q) : WE K (tCall (toSp K S) dvs E t) ds M Q := ⟨fun σ H hE hM R k =>
  h.run σ H hE hM _ fun vs H1 xs M1 e1 m1 a1 q1 => ⟨xs ++ dxs, M1, Q, a1.append (hd H1), m1, q1, fun v H' d M' e m a q => k v H' d M' (e1.trans e) m a q⟩⟩
theorem we_call0 {S : SpD} {E : XK} (h : WA K t ds M fun xs M1 => S xs M1 Q) : WE K (tCall (toSp K S) [] E t) ds M Q := ⟨fun σ H hE hM R k =>
  h.run σ H hE hM _ fun vs H1 xs M1 e1 m1 a1 q1 => ⟨xs, M1, Q, by rw [List.append_nil]; exact a1, m1, q1, fun v H' d M' e m a q => k v H' d M' (e1.trans e) m a q⟩⟩

/-! ### subscripts and slices -/
theorem atI_rel {H : Hp} {vs : List V} {xs : List Dv} {n : Int} (h : DAts K H vs xs) (e : atI xs n = some d) : ∃ v, atI vs n = some v ∧ DAt K H v d := by
  unfold atI at e ⊢
  rw [h.length]
  cases q : ixN xs.length n with
  | none =>
    rw [q] at e
    cases e
  | some j =>
    rw [q] at e
    exact h.get e
theorem rv_ixT {xs : List Dv} {n : Int} (h : atI xs n = some d) (q : Q d M) : RV K (rIxT K) (.tup xs) (.int n) M Q := ⟨fun v w H a b hM R k => by
  cases b
  cases a with
  | tup h1 h2 =>
    obtain ⟨v, e, a⟩ := atI_rel h2 h
    exact ⟨_, _, n, v, rfl, rfl, h1, e, k v H d M .refl hM a q⟩⟩
theorem rv_ixL {p : Addr} {xs : List Dv} {n : Int} (hp : M p = some (.lst xs)) (h : atI xs n = some d) (q : Q d M) : RV K (rIxL K) (.adr p) (.int n) M Q := ⟨fun v w H a b hM R k => by
  cases b
  cases a
  obtain ⟨ws, h1, h2⟩ := hM p _ hp
  obtain ⟨v, e, a⟩ := atI_rel h2 h
  exact ⟨_, _, n, v, rfl, rfl, SqL.of h1, e, k v H d M .refl hM a q⟩⟩
def cutD (xs : List Dv) (lo hi : Option Int) : List Dv := (xs.drop (HT.sIx xs.length 0 lo)).take (HT.sIx xs.length xs.length hi - HT.sIx xs.length 0 lo)
theorem cut_rel {H : Hp} {vs : List V} {xs : List Dv} {lo hi : Option Int} (h : DAts K H vs xs) : DAts K H (cutV vs lo hi) (cutD xs lo hi) := by
  unfold cutV cutD
  rw [h.length]
  exact (h.drop _).take _
theorem wo_none (q : QO none M) : WO K tNoPart ds M QO := ⟨fun σ H hE hM R k => k _ H M .refl hM q⟩
theorem wo_some (h : WE K te ds M fun x M1 => ∃ n, x = .int n ∧ QO (some n) M1) : WO K (tPart te) ds M QO := ⟨fun σ H hE hM R k =>
  h.run σ H hE hM _ fun v H1 x M1 e1 m1 a1 q1 => by
    obtain ⟨n, rfl, q1⟩ := q1
    cases a1
    exact ⟨n, rfl, k _ H1 M1 e1 m1 q1⟩⟩
/-- t[lo:hi], t a tuple -/
theorem we_slT {tl th : TO} (h : WE K te ds M fun x M1 => ∃ xs, x = .tup xs ∧ WO K tl ds M1 fun lo M2 => WO K th ds M2 fun hi M3 => Q (.tup (cutD xs lo hi)) M3) : WE K (tSl (rSlA K) te tl th) ds M Q := ⟨fun σ H hE hM R k =>
  h.run σ H hE hM _ fun v H1 x M1 e1 m1 a1 q1 => by
    obtain ⟨xs, rfl, q1⟩ := q1
    refine q1.run σ H1 (hE.mono e1) m1 _ fun lo H2 M2 e2 m2 q2 => q2.run σ H2 (hE.mono (e1.trans e2)) m2 _ fun hi H3 M3 e3 m3 q3 => ?_
    have a3 := a1.mono (e2.trans e3)
    cases a3 with
    | @tup _ ws _ h1 h2 =>
      refine ⟨_, _, rfl, h1, fun hw => ?_, fun hw p hp => ?_⟩
      · refine k _ H3 _ M3 ((e1.trans e2).trans e3) m3 (.tup h1 ?_) q3
        have e : cutD xs lo hi = xs := by
          rw [h2.length] at hw
          unfold cutD
          rw [hw.1, hw.2]
          simp
        rw [e]
        exact h2
      · have e4 : ETx K H3 (upd H3 p (.tup (cutV ws lo hi))) := .new hp
        exact k _ _ _ M3 (((e1.trans e2).trans e3).trans e4) (m3.grow fun a o z => by rw [upd_ne (ne_of_none z hp)]; exact z) (.tup (SqT.of upd_same) ((cut_rel h2).mono e4)) q3⟩
/-- xs[lo:hi], xs a list that never changes -/
theorem we_slF {tl th : TO} (h : WE K te ds M fun x M1 => ∃ ns, x = .frl ns ∧ WO K tl ds M1 fun lo M2 => WO K th ds M2 fun hi M3 => ∀ q, M3 q = none → Q (.adr q) (mupd M3 q (.lst (cutD (ns.map .int) lo hi)))) : WE K (tSl (rSlL K) te tl th) ds M Q := ⟨fun σ H hE hM R k =>
  h.run σ H hE hM _ fun v H1 x M1 e1 m1 a1 q1 => by
    obtain ⟨ns, rfl, q1⟩ := q1
    refine q1.run σ H1 (hE.mono e1) m1 _ fun lo H2 M2 e2 m2 q2 => q2.run σ H2 (hE.mono (e1.trans e2)) m2 _ fun hi H3 M3 e3 m3 q3 => ?_
    have a3 := a1.mono (e2.trans e3)
    cases a3 with
    | frl h =>
      have intsR : ∀ l : List Int, DAts K H3 (l.map V.int) (l.map Dv.int) := fun l => by
        induction l with
        | nil => exact .nil
        | cons n l ih => exact .cons (.int n) ih
      refine ⟨_, _, rfl, h.sq, fun q hq => ?_⟩
      have e4 : ETx K H3 (upd H3 q (.lst (cutV (ns.map V.int) lo hi))) := .new hq
      exact k _ _ _ _ (((e1.trans e2).trans e3).trans e4) (m3.put e4 (.ofL upd_same ((cut_rel (intsR ns)).mono e4))) (.adr q) (q3 q (m3.none hq))⟩
theorem rv_ixF {ns : List Int} {n m : Int} (h : atI ns n = some m) (q : Q (.int m) M) : RV K (rIxL K) (.frl ns) (.int n) M Q := ⟨fun v w H a b hM R k => by
  cases b
  cases a with
  | frl h1 =>
    have e : atI (ns.map V.int) n = some (.int m) := by
      unfold atI at h ⊢
      rw [List.length_map]
      cases z : ixN ns.length n with
      | none =>
        rw [z] at h
        cases h
      | some j =>
        rw [z] at h
        have h' : ns[j]? = some m := h
        show (ns.map V.int)[j]? = _
        rw [List.getElem?_map, h']
        rfl
    exact ⟨_, _, n, _, rfl, rfl, h1.sq, e, k _ H _ M .refl hM (.int m) q⟩⟩

/-! ### operators by values -/
theorem rv_I0 {g : Int → Int → V} {g' : Int → Int → Dv} {a b : Int} (hg : ∀ H, DAt K H (g a b) (g' a b)) (q : Q (g' a b) M) : RV K (rI0 g) (.int a) (.int b) M Q := ⟨fun v w H h1 h2 hM R k => by
  cases h1
  cases h2
  exact ⟨a, b, rfl, rfl, k _ H _ M .refl hM (hg H) q⟩⟩
theorem rv_I {C : Int → Int → Prop} {g : Int → Int → V} {g' : Int → Int → Dv} {a b : Int} (hg : ∀ H, DAt K H (g a b) (g' a b)) (c : C a b) (q : Q (g' a b) M) : RV K (rI C g) (.int a) (.int b) M Q := ⟨fun v w H h1 h2 hM R k => by
  cases h1
  cases h2
  exact ⟨a, b, rfl, rfl, c, k _ H _ M .refl hM (hg H) q⟩⟩
theorem rv_add {a b : Int} (q : Q (.int (a + b)) M) : RV K (rI0 fun i j => .int (i + j)) (.int a) (.int b) M Q := rv_I0 (g' := fun i j => .int (i + j)) (fun H => .int _) q
theorem rv_sub {a b : Int} (q : Q (.int (a - b)) M) : RV K (rI0 fun i j => .int (i - j)) (.int a) (.int b) M Q := rv_I0 (g' := fun i j => .int (i - j)) (fun H => .int _) q
theorem rv_lt {a b : Int} (q : Q (.bl (decide (a < b))) M) : RV K (rI0 fun i j => .bl (decide (i < j))) (.int a) (.int b) M Q := rv_I0 (g' := fun i j => .bl (decide (i < j))) (fun H => .bl _) q
theorem rv_le {a b : Int} (q : Q (.bl (decide (a ≤ b))) M) : RV K (rI0 fun i j => .bl (decide (i ≤ j))) (.int a) (.int b) M Q := rv_I0 (g' := fun i j => .bl (decide (i ≤ j))) (fun H => .bl _) q
theorem rv_gt {a b : Int} (q : Q (.bl (decide (b < a))) M) : RV K (rI0 fun i j => .bl (decide (j < i))) (.int a) (.int b) M Q := rv_I0 (g' := fun i j => .bl (decide (j < i))) (fun H => .bl _) q
theorem rv_ge {a b : Int} (q : Q (.bl (decide (b ≤ a))) M) : RV K (rI0 fun i j => .bl (decide (j ≤ i))) (.int a) (.int b) M Q := rv_I0 (g' := fun i j => .bl (decide (j ≤ i))) (fun H => .bl _) q
theorem rv_mul {C : Int → Int → Prop} {a b : Int} (c : C a b) (q : Q (.int (a * b)) M) : RV K (rI C fun i j => .int (i * j)) (.int a) (.int b) M Q := rv_I (g' := fun i j => .int (i * j)) (fun H => .int _) c q
theorem rv_mod {C : Int → Int → Prop} {a b : Int} (c : C a b) (q : Q (.int (a % b)) M) : RV K (rI C fun i j => .int (i % j)) (.int a) (.int b) M Q := rv_I (g' := fun i j => .int (i % j)) (fun H => .int _) c q
theorem rv_fdiv {C : Int → Int → Prop} {a b : Int} (c : C a b) (q : Q (.int (a / b)) M) : RV K (rI C fun i j => .int (i / j)) (.int a) (.int b) M Q := rv_I (g' := fun i j => .int (i / j)) (fun H => .int _) c q
theorem rv_eqS {a b : Str} (q : Q (.bl (decide (a = b))) M) : RV K rEq (.str a) (.str b) M Q := ⟨fun v w H h1 h2 hM R k => by
  cases h1
  cases h2
  refine ⟨rfl, k _ H (.bl (decide (a = b))) M .refl hM ?_ q⟩
  rw [show decide (V.str a = V.str b) = decide (a = b) from decide_eq_decide.mpr ⟨fun h => V.str.inj h, fun h => congrArg _ h⟩]
  exact .bl _⟩
theorem rv_neS {a b : Str} (q : Q (.bl (!decide (a = b))) M) : RV K rNe (.str a) (.str b) M Q := ⟨fun v w H h1 h2 hM R k => by
  cases h1
  cases h2
  refine ⟨rfl, k _ H (.bl (!decide (a = b))) M .refl hM ?_ q⟩
  rw [show decide (V.str a = V.str b) = decide (a = b) from decide_eq_decide.mpr ⟨fun h => V.str.inj h, fun h => congrArg _ h⟩]
  exact .bl _⟩
theorem rv_eqI {a b : Int} (q : Q (.bl (decide (a = b))) M) : RV K rEq (.int a) (.int b) M Q := ⟨fun v w H h1 h2 hM R k => by
  cases h1
  cases h2
  refine ⟨rfl, k _ H (.bl (decide (a = b))) M .refl hM ?_ q⟩
  rw [show decide (V.int a = V.int b) = decide (a = b) from decide_eq_decide.mpr ⟨fun h => V.int.inj h, fun h => congrArg _ h⟩]
  exact .bl _⟩
theorem rv_neI {a b : Int} (q : Q (.bl (!decide (a = b))) M) : RV K rNe (.int a) (.int b) M Q := ⟨fun v w H h1 h2 hM R k => by
  cases h1
  cases h2
  refine ⟨rfl, k _ H (.bl (!decide (a = b))) M .refl hM ?_ q⟩
  rw [show decide (V.int a = V.int b) = decide (a = b) from decide_eq_decide.mpr ⟨fun h => V.int.inj h, fun h => congrArg _ h⟩]
  exact .bl _⟩
theorem rv_eqB {a b : Bool} (q : Q (.bl (decide (a = b))) M) : RV K rEq (.bl a) (.bl b) M Q := ⟨fun v w H h1 h2 hM R k => by
  cases h1
  cases h2
  refine ⟨rfl, k _ H (.bl (decide (a = b))) M .refl hM ?_ q⟩
  rw [show decide (V.bl a = V.bl b) = decide (a = b) from decide_eq_decide.mpr ⟨fun h => V.bl.inj h, fun h => congrArg _ h⟩]
  exact .bl _⟩
theorem rv_neB {a b : Bool} (q : Q (.bl (!decide (a = b))) M) : RV K rNe (.bl a) (.bl b) M Q := ⟨fun v w H h1 h2 hM R k => by
  cases h1
  cases h2
  refine ⟨rfl, k _ H (.bl (!decide (a = b))) M .refl hM ?_ q⟩
  rw [show decide (V.bl a = V.bl b) = decide (a = b) from decide_eq_decide.mpr ⟨fun h => V.bl.inj h, fun h => congrArg _ h⟩]
  exact .bl _⟩
/-- is None -/
def isNon : Dv → Bool
  | .non => true
  | _ => false
theorem isNon_rel {H : Hp} {v : V} (h : DAt K H v x) : decide (v = V.non) = isNon x := by
  cases h <;> simp [isNon]
theorem rv_isN (q : Q (.bl (isNon x)) M) : RV K (fun x y H Q => y = .non ∧ Q (.bl (decide (x = .non))) H) x .non M Q := ⟨fun v w H h1 h2 hM R k => by
  cases h2
  refine ⟨rfl, ?_⟩
  rw [isNon_rel h1]
  exact k _ H _ M .refl hM (.bl _) q⟩
theorem rv_notN (q : Q (.bl (!isNon x)) M) : RV K (fun x y H Q => y = .non ∧ Q (.bl (!decide (x = .non))) H) x .non M Q := ⟨fun v w H h1 h2 hM R k => by
  cases h2
  refine ⟨rfl, ?_⟩
  rw [isNon_rel h1]
  exact k _ H _ M .refl hM (.bl _) q⟩
/-- flat data as values -/
def toV : Dv → V
  | .non => .non
  | .bl b => .bl b
  | .int i => .int i
  | .str z => .str z
  | .ty n => .ty n
  | _ => .non
def flatD : Dv → Bool
  | .non => true
  | .bl _ => true
  | .int _ => true
  | .str _ => true
  | _ => false
theorem flat_rel {H : Hp} {v : V} (h : DAt K H v x) (f : flatD x = true) : v = toV x ∧ flatV v = true := by
  cases h <;> first | exact ⟨rfl, rfl⟩ | cases f
theorem flats_rel {H : Hp} : ∀ {vs : List V} {xs : List Dv}, DAts K H vs xs → xs.all flatD = true → vs = xs.map toV ∧ vs.all flatV = true
  | _, _, .nil, _ => ⟨rfl, rfl⟩
  | _, _, .cons h t, f => by
    rw [List.all_cons, Bool.and_eq_true] at f
    obtain ⟨e1, f1⟩ := flat_rel h f.1
    obtain ⟨e2, f2⟩ := flats_rel t f.2
    exact ⟨by rw [List.map_cons, ← e1, ← e2], by rw [List.all_cons, f1, f2]; rfl⟩
def inD (x : Dv) (xs : List Dv) : Bool := inV (toV x) (xs.map toV)
theorem rv_inT {xs : List Dv} (fx : flatD x = true) (fs : xs.all flatD = true) (q : Q (.bl (inD x xs)) M) : RV K (rIn K false) x (.tup xs) M Q := ⟨fun v w H h1 h2 hM R k => by
  cases h2 with
  | tup a b =>
    obtain ⟨e1, f1⟩ := flat_rel h1 fx
    obtain ⟨e2, f2⟩ := flats_rel b fs
    refine ⟨_, _, rfl, .inr a, f1, f2, ?_⟩
    rw [e1, e2]
    exact k _ H _ M .refl hM (.bl _) q⟩
theorem rv_niT {xs : List Dv} (fx : flatD x = true) (fs : xs.all flatD = true) (q : Q (.bl (!inD x xs)) M) : RV K (rIn K true) x (.tup xs) M Q := ⟨fun v w H h1 h2 hM R k => by
  cases h2 with
  | tup a b =>
    obtain ⟨e1, f1⟩ := flat_rel h1 fx
    obtain ⟨e2, f2⟩ := flats_rel b fs
    refine ⟨_, _, rfl, .inr a, f1, f2, ?_⟩
    rw [e1, e2]
    exact k _ H _ M .refl hM (.bl _) q⟩
theorem rv_inL {p : Addr} {xs : List Dv} (hp : M p = some (.lst xs)) (fx : flatD x = true) (fs : xs.all flatD = true) (q : Q (.bl (inD x xs)) M) : RV K (rIn K false) x (.adr p) M Q := ⟨fun v w H h1 h2 hM R k => by
  cases h2
  obtain ⟨ws, a, b⟩ := hM p _ hp
  obtain ⟨e1, f1⟩ := flat_rel h1 fx
  obtain ⟨e2, f2⟩ := flats_rel b fs
  refine ⟨_, _, rfl, .inl (SqL.of a), f1, f2, ?_⟩
  rw [e1, e2]
  exact k _ H _ M .refl hM (.bl _) q⟩
theorem rv_niL {p : Addr} {xs : List Dv} (hp : M p = some (.lst xs)) (fx : flatD x = true) (fs : xs.all flatD = true) (q : Q (.bl (!inD x xs)) M) : RV K (rIn K true) x (.adr p) M Q := ⟨fun v w H h1 h2 hM R k => by
  cases h2
  obtain ⟨ws, a, b⟩ := hM p _ hp
  obtain ⟨e1, f1⟩ := flat_rel h1 fx
  obtain ⟨e2, f2⟩ := flats_rel b fs
  refine ⟨_, _, rfl, .inl (SqL.of a), f1, f2, ?_⟩
  rw [e1, e2]
  exact k _ H _ M .refl hM (.bl _) q⟩
/-- tuple + tuple -/
theorem rv_catT {xs ys : List Dv} (hl : xs.length + ys.length ≤ 1000000) (q : Q (.tup (xs ++ ys)) M) : RV K (rCatA K) (.tup xs) (.tup ys) M Q := ⟨fun v w H h1 h2 hM R k => by
  cases h1 with
  | @tup _ vs' _ a b =>
    cases h2 with
    | @tup _ ws' _ a' b' =>
      refine ⟨_, _, _, _, rfl, rfl, a, a', Nat.le_trans (by rw [b.length, b'.length]; exact hl) (by decide), fun e => ?_, fun _ e => ?_, fun _ _ p hp => ?_⟩
      · subst e
        cases b
        exact k _ H _ M .refl hM (.tup a' b') q
      · subst e
        cases b'
        rw [List.append_nil] at q
        exact k _ H _ M .refl hM (.tup a b) q
      · have e : ETx K H (upd H p (.tup (vs' ++ ws'))) := .new hp
        exact k _ _ _ M e (hM.grow fun a o z => by rw [upd_ne (ne_of_none z hp)]; exact z) (.tup (SqT.of upd_same) ((b.append b').mono e)) q⟩
/-- list + list -/
theorem rv_catL {p1 p2 : Addr} {xs ys : List Dv} (h1 : M p1 = some (.lst xs)) (h2 : M p2 = some (.lst ys)) (hl : xs.length + ys.length ≤ 1000000) (q : ∀ p, M p = none → Q (.adr p) (mupd M p (.lst (xs ++ ys)))) : RV K rCat (.adr p1) (.adr p2) M Q := ⟨fun v w H a1 a2 hM R k => by
  cases a1
  cases a2
  obtain ⟨vs, e1, r1⟩ := hM p1 _ h1
  obtain ⟨ws, e2, r2⟩ := hM p2 _ h2
  refine ⟨_, _, _, _, rfl, rfl, e1, e2, Nat.le_trans (by rw [r1.length, r2.length]; exact hl) (by decide), fun p hp => ?_⟩
  have e : ETx K H (upd H p (.lst (vs ++ ws))) := .new hp
  exact k _ _ _ _ e (hM.put e (.ofL upd_same ((r1.append r2).mono e))) (.adr p) (q p (hM.none hp))⟩
end
end FS
set_option maxHeartbeats 4000000
/-! The data layer's rules: statements, targets, loops, comprehensions. -/
namespace FS
open PySem PySem.Spec PyProof.Rows L2
section
variable {K : PySem.W.Frag} {ds : EnvD} {M : Mm} {D : DEnds} {Q : Dv → Mm → Prop} {te ta tb tc : TE} {tt : TT} {t : TA} {ts tu : TS} {d x y : Dv} {i j : Nat}
theorem Serves.mono {H H' : Hp} {R : Ends} (h : Serves K H D R) (e : ETx K H H') : Serves K H' D R :=
  ⟨fun σ' H2 ds' M' e2 => h.nx σ' H2 ds' M' (e.trans e2), fun v H2 d M' e2 => h.rt v H2 d M' (e.trans e2), fun σ' H2 ds' M' e2 => h.bk σ' H2 ds' M' (e.trans e2), fun σ' H2 ds' M' e2 => h.ct σ' H2 ds' M' (e.trans e2)⟩
theorem ws_next (q : D.nx ds M) : WS K tNext ds M D := ⟨fun σ H hE hM R k => k.nx σ H ds M .refl hE hM q⟩
theorem ws_brk (q : D.bk ds M) : WS K tBreak ds M D := ⟨fun σ H hE hM R k => k.bk σ H ds M .refl hE hM q⟩
theorem ws_cont (q : D.ct ds M) : WS K tCont ds M D := ⟨fun σ H hE hM R k => k.ct σ H ds M .refl hE hM q⟩
theorem ws_seq (h : WS K ts ds M { D with nx := fun ds' M' => WS K tu ds' M' D }) : WS K (tSeq ts tu) ds M D := ⟨fun σ H hE hM R k =>
  h.run σ H hE hM _ ⟨fun σ' H' ds' M' e hE' hM' q => q.run σ' H' hE' hM' R (k.mono e), k.rt, k.bk, k.ct⟩⟩
theorem ws_ret (h : WE K te ds M D.rt) : WS K (tRet te) ds M D := ⟨fun σ H hE hM R k => h.run σ H hE hM R.rt fun v H' d M' e m a q => k.rt v H' d M' e m a q⟩
theorem ws_retN (q : D.rt .non M) : WS K tRetN ds M D := ⟨fun σ H hE hM R k => k.rt _ H _ M .refl hM .non q⟩
theorem ws_drop (h : WE K te ds M fun _ M' => D.nx ds M') : WS K (tDrop te) ds M D := ⟨fun σ H hE hM R k => h.run σ H hE hM _ fun v H' d M' e m a q => k.nx σ H' ds M' e (hE.mono e) m q⟩
theorem ws_asg {g : TG} (h : WE K te ds M fun x M1 => WG K g x ds M1 D.nx) : WS K (tAsg te g) ds M D := ⟨fun σ H hE hM R k =>
  h.run σ H hE hM _ fun v H1 x M1 e1 m1 a1 q1 => q1.run v σ H1 a1 (hE.mono e1) m1 R.nx fun σ' H' ds' M' e hE' m q => k.nx σ' H' ds' M' (e1.trans e) hE' m q⟩
theorem ws_set (h : WE K te ds M fun x M1 => D.nx (ds.set i (some x)) M1) : WS K (tAsg te (gName i)) ds M D := ⟨fun σ H hE hM R k =>
  h.run σ H hE hM _ fun v H1 x M1 e1 m1 a1 q1 => k.nx _ H1 _ M1 e1 ((hE.mono e1).set a1) m1 q1⟩
theorem ws_if (h : WT K tt ds M fun b M1 => (b = true → WS K ts ds M1 D) ∧ (b = false → WS K tu ds M1 D)) : WS K (tIfS tt ts tu) ds M D := ⟨fun σ H hE hM R k =>
  h.run σ H hE hM _ fun b H1 M1 e1 m1 q1 => by
    cases b with
    | true => exact iteT ((q1.1 rfl).run σ H1 (hE.mono e1) m1 R (k.mono e1))
    | false => exact iteF ((q1.2 rfl).run σ H1 (hE.mono e1) m1 R (k.mono e1))⟩
/-- x += e, x -= e of numbers -/
theorem ws_aug {f : Int → Int → Int} {a : Int} (hx : ds[i]? = some (some (.int a))) (h : WE K te ds M fun y M1 => ∃ b, y = .int b ∧ D.nx (ds.set i (some (.int (f a b)))) M1) : WS K (tAug i te (ipI f)) ds M D := ⟨fun σ H hE hM R k => by
  obtain ⟨v, h1, h2⟩ := hE.at' i _ hx
  cases h2
  refine ⟨_, h1, h.run σ H hE hM _ fun w H1 y M1 e1 m1 a1 q1 => ?_⟩
  obtain ⟨b, rfl, q1⟩ := q1
  cases a1
  exact ⟨a, b, rfl, rfl, k.nx _ H1 _ M1 e1 ((hE.mono e1).set (.int _)) m1 q1⟩⟩
/-- a, b = e1, e2 -/
theorem ws_par (h : WA K t ds M fun xs M1 => ∃ x y, xs = [x, y] ∧ D.nx ((ds.set i (some x)).set j (some y)) M1) : WS K (tPar i j t) ds M D := ⟨fun σ H hE hM R k =>
  h.run σ H hE hM _ fun vs H1 xs M1 e1 m1 a1 q1 => by
    obtain ⟨x, y, rfl, q1⟩ := q1
    cases a1 with
    | cons r1 a2 =>
      cases a2 with
      | cons r2 a3 =>
        cases a3
        exact ⟨_, _, rfl, k.nx _ H1 _ M1 e1 (((hE.mono e1).set r1).set r2) m1 q1⟩⟩
theorem ws_par3 {l : Nat} (h : WA K t ds M fun xs M1 => ∃ x y z, xs = [x, y, z] ∧ D.nx (((ds.set i (some x)).set j (some y)).set l (some z)) M1) : WS K (tPar3 i j l t) ds M D := ⟨fun σ H hE hM R k =>
  h.run σ H hE hM _ fun vs H1 xs M1 e1 m1 a1 q1 => by
    obtain ⟨x, y, z, rfl, q1⟩ := q1
    cases a1 with
    | cons r1 a2 =>
      cases a2 with
      | cons r2 a3 =>
        cases a3 with
        | cons r3 a4 =>
          cases a4
          exact ⟨_, _, _, rfl, k.nx _ H1 _ M1 e1 ((((hE.mono e1).set r1).set r2).set r3) m1 q1⟩⟩

/-! ### targets -/
variable {QG : EnvD → Mm → Prop}
theorem wg_name (q : QG (ds.set i (some x)) M) : WG K (gName i) x ds M QG := ⟨fun v σ H a hE hM R k => k _ H _ M .refl (hE.set a) hM q⟩
theorem wgs_nil (q : QG ds M) : WGs K gNil [] ds M QG := ⟨fun vs σ H a hE hM R k => by
  cases a
  exact ⟨rfl, k σ H ds M .refl hE hM q⟩⟩
theorem wgs_cons {g : TG} {gs : TGs} {xs : List Dv} (h : WG K g x ds M fun ds1 M1 => WGs K gs xs ds1 M1 QG) : WGs K (gCons g gs) (x :: xs) ds M QG := ⟨fun vs σ H a hE hM R k => by
  cases a with
  | cons r a =>
    exact ⟨_, _, rfl, h.run _ σ H r hE hM _ fun σ' H' ds' M' e hE' m q => q.run _ σ' H' (a.mono e) hE' m R fun σ2 H2 ds2 M2 e2 hE2 m2 q2 => k σ2 H2 ds2 M2 (e.trans e2) hE2 m2 q2⟩⟩
theorem wg_tup {n : Nat} {gs : TGs} {xs : List Dv} (hl : xs.length = n) (h : WGs K gs xs ds M QG) : WG K (gTup K n gs) (.tup xs) ds M QG := ⟨fun v σ H a hE hM R k => by
  cases a with
  | tup h1 h2 => exact ⟨_, _, rfl, h1, by rw [h2.length]; exact hl, h.run _ σ H h2 hE hM R k⟩⟩
/-- xs[k] = x, xs a list -/
theorem wg_sub (h : WE K ta ds M fun o M1 => WE K tb ds M1 fun n M2 => ∃ p k j ys, o = .adr p ∧ n = .int k ∧ M2 p = some (.lst ys) ∧ ixN ys.length k = some j ∧ QG ds (mupd M2 p (.lst (ys.set j x)))) : WG K (gSub ta tb rSetL) x ds M QG := ⟨fun v σ H a hE hM R k =>
  h.run σ H hE hM _ fun o H1 od M1 e1 m1 a1 q1 => q1.run σ H1 (hE.mono e1) m1 _ fun n H2 nd M2 e2 m2 a2 q2 => by
    obtain ⟨p, kk, j, ys, rfl, rfl, hp, hj, q⟩ := q2
    cases a1
    cases a2
    obtain ⟨ws, h1, h2⟩ := m2 p _ hp
    refine ⟨p, ws, kk, j, rfl, rfl, h1, by rw [h2.length]; exact hj, ?_⟩
    have e3 : ETx K H2 (upd H2 p (.lst (ws.set j v))) := .lst h1
    exact k σ _ ds _ ((e1.trans e2).trans e3) (hE.mono ((e1.trans e2).trans e3)) (m2.put e3 (.ofL upd_same ((h2.set (a.mono (e1.trans e2)) j).mono e3))) q⟩

/-! ### while -/
theorem ws_while (W : Nat → EnvD → Mm → Prop) (h0 : ∃ m, W m ds M)
    (hs : ∀ m ds' M', W m ds' M' → WT K tt ds' M' fun b M1 => (b = true → WS K ts ds' M1 { nx := fun ds2 M2 => ∃ m', m' < m ∧ W m' ds2 M2, ct := fun ds2 M2 => ∃ m', m' < m ∧ W m' ds2 M2, bk := D.nx, rt := D.rt }) ∧ (b = false → D.nx ds' M1)) : WS K (tWhile tt ts) ds M D := ⟨fun σ H hE hM R k => by
  refine ⟨fun m σ' H' => ∃ ds' M', ETx K H H' ∧ EnvAt K H' σ' ds' ∧ MAt K H' M' ∧ W m ds' M', h0.elim fun m h => ⟨m, ds, M, .refl, hE, hM, h⟩, fun m σ' H' ⟨ds', M', e, hE', hM', w⟩ => ?_⟩
  refine (hs m ds' M' w).run σ' H' hE' hM' _ fun b H1 M1 e1 m1 q1 => ?_
  cases b with
  | true =>
    refine iteT ⟨fun σ2 H2 => ∃ m', m' < m ∧ ∃ ds2 M2, ETx K H H2 ∧ EnvAt K H2 σ2 ds2 ∧ MAt K H2 M2 ∧ W m' ds2 M2, fun σ2 H2 z => z, ?_⟩
    refine (q1.1 rfl).run σ' H1 (hE'.mono e1) m1 _ ⟨fun σ2 H2 ds2 M2 e2 hE2 hM2 ⟨m', lt, w2⟩ => ⟨m', lt, ds2, M2, (e.trans e1).trans e2, hE2, hM2, w2⟩, fun v H2 d M2 e2 m2 a q => k.rt v H2 d M2 ((e.trans e1).trans e2) m2 a q,
      fun σ2 H2 ds2 M2 e2 hE2 hM2 q => k.nx σ2 H2 ds2 M2 ((e.trans e1).trans e2) hE2 hM2 q, fun σ2 H2 ds2 M2 e2 hE2 hM2 ⟨m', lt, w2⟩ => ⟨m', lt, ds2, M2, (e.trans e1).trans e2, hE2, hM2, w2⟩⟩
  | false => exact iteF (k.nx σ' H1 ds' M1 (e.trans e1) (hE'.mono e1) m1 (q1.2 rfl))⟩

/-! ### what is walked, over data -/
/-- the iterator J yields the items of xs, as long as Kp stands -/
structure Yl (K : PySem.W.Frag) (J : It) (Kp : Hp → Mm → Prop) (xs : List Dv) : Prop where
  go : ∀ (i : Nat) (H : Hp) (M : Mm), Kp H M → MAt K H M → i < xs.length → J.go i H
  stop : ∀ (H : Hp) (M : Mm), Kp H M → MAt K H M → J.stop xs.length H
  yld : ∀ (i : Nat) (H : Hp) (M : Mm) (v : V) (H' : Hp), Kp H M → MAt K H M → i < xs.length → J.yld i H v H' → ∃ x, xs[i]? = some x ∧ (∀ a o, H a = some o → H' a = some o) ∧ DAt K H' v x
theorem yl_tup {a : Addr} {xs : List Dv} : Yl K (Itt K a) (fun H _ => ∃ vs, SqT K H a vs ∧ DAts K H vs xs) xs := by
  refine ⟨fun i H M ⟨vs, h1, h2⟩ _ hi => ?_, fun H M ⟨vs, h1, h2⟩ _ => ⟨vs, h1, Nat.le_of_eq h2.length⟩, fun i H M v H' ⟨vs, h1, h2⟩ _ hi y => ?_⟩
  · obtain ⟨v, e, _⟩ := h2.get (List.getElem?_eq_getElem hi)
    exact ⟨vs, v, h1, e⟩
  · obtain ⟨rfl, f⟩ := y
    obtain ⟨x, e, r⟩ := h2.get' (f vs h1)
    exact ⟨x, e, fun _ _ h => h, r⟩
theorem yl_lst {a : Addr} {xs : List Dv} : Yl K (Itl K a) (fun _ M => M a = some (.lst xs)) xs := by
  refine ⟨fun i H M hp hM hi => ?_, fun H M hp hM => ?_, fun i H M v H' hp hM hi y => ?_⟩
  · obtain ⟨vs, h1, h2⟩ := hM a _ hp
    obtain ⟨v, e, _⟩ := h2.get (List.getElem?_eq_getElem hi)
    exact ⟨vs, v, SqL.of h1, e⟩
  · obtain ⟨vs, h1, h2⟩ := hM a _ hp
    exact ⟨vs, SqL.of h1, Nat.le_of_eq h2.length⟩
  · obtain ⟨vs, h1, h2⟩ := hM a _ hp
    obtain ⟨rfl, f⟩ := y
    obtain ⟨x, e, r⟩ := h2.get' (f vs (SqL.of h1))
    exact ⟨x, e, fun _ _ h => h, r⟩
theorem yl_rng {n : Nat} : Yl K (Itr 0 n) (fun _ _ => True) ((List.range n).map fun (k : Nat) => Dv.int (k : Int)) := by
  refine ⟨fun i H M _ _ hi => ?_, fun H M _ _ => ?_, fun i H M v H' _ _ hi y => ?_⟩
  · rw [List.length_map, List.length_range] at hi
    exact hi
  · rw [List.length_map, List.length_range]
    exact Nat.le_refl n
  · obtain ⟨rfl, rfl⟩ := y
    rw [List.length_map, List.length_range] at hi
    refine ⟨.int (i : Int), ?_, fun _ _ h => h, ?_⟩
    · rw [List.getElem?_map, List.getElem?_range hi]
      rfl
    · rw [Int.zero_add]
      exact .int _
/-- zip of two tuples -/
def zipD (xs ys : List Dv) : List Dv := List.zipWith (fun x y => Dv.tup [x, y]) xs ys
theorem yl_zip {a b : Addr} {xs ys : List Dv} : Yl K (RZ.ItzT K a b) (fun H _ => (∃ vs, SqT K H a vs ∧ DAts K H vs xs) ∧ ∃ vs, SqT K H b vs ∧ DAts K H vs ys) (zipD xs ys) := by
  have hl : (zipD xs ys).length = min xs.length ys.length := List.length_zipWith
  refine ⟨fun i H M ⟨⟨vs, h1, h2⟩, ws, h3, h4⟩ _ hi => ?_, fun H M ⟨⟨vs, h1, h2⟩, ws, h3, h4⟩ _ => ?_, fun i H M v H' ⟨⟨vs, h1, h2⟩, ws, h3, h4⟩ _ hi y => ?_⟩
  · obtain ⟨v, e, _⟩ := h2.get (List.getElem?_eq_getElem (show i < xs.length by omega))
    obtain ⟨w, e', _⟩ := h4.get (List.getElem?_eq_getElem (show i < ys.length by omega))
    exact ⟨vs, ws, v, w, h1, h3, e, e'⟩
  · refine ⟨vs, ws, h1, h3, ?_⟩
    rw [h2.length, h4.length]
    omega
  · obtain ⟨T, x, y, rfl, nT, rfl, f, g⟩ := y
    obtain ⟨xd, e, r⟩ := h2.get' (f vs h1)
    obtain ⟨yd, e', r'⟩ := h4.get' (g ws h3)
    have ex : ETx K H (upd H T (.tup [x, y])) := .new nT
    refine ⟨.tup [xd, yd], ?_, fun a o h => by rw [upd_ne (ne_of_none h nT)]; exact h, .tup (SqT.of upd_same) (.cons (r.mono ex) (.cons (r'.mono ex) .nil))⟩
    unfold zipD
    rw [List.getElem?_zipWith, e, e']

/-- a walk over data: the word that a for, a comprehension asks -/
structure WI (K : PySem.W.Frag) (wi : TI) (ds : EnvD) (M : Mm) (Q : (It → (Hp → Mm → Prop) → Mm → Prop)) : Prop where
  run : ∀ σ H, EnvAt K H σ ds → MAt K H M → ∀ R : It → Hp → Prop, (∀ J H' Kp M', ETx K H H' → MAt K H' M' → Kp H' M' → Q J Kp M' → R J H') → wi σ H R
theorem wi_tup {Q : It → (Hp → Mm → Prop) → Mm → Prop} (h : WE K te ds M fun x M1 => ∃ xs, x = .tup xs ∧ ∀ a, Q (Itt K a) (fun H _ => ∃ vs, SqT K H a vs ∧ DAts K H vs xs) M1) : WI K (iTup K te) ds M Q := ⟨fun σ H hE hM R k =>
  h.run σ H hE hM _ fun v H1 x M1 e1 m1 a1 q1 => by
    obtain ⟨xs, rfl, q1⟩ := q1
    cases a1 with
    | @tup a vs _ h1 h2 => exact ⟨a, rfl, ⟨vs, h1⟩, k _ H1 _ M1 e1 m1 ⟨vs, h1, h2⟩ (q1 a)⟩⟩
theorem wi_lst {Q : It → (Hp → Mm → Prop) → Mm → Prop} (h : WE K te ds M fun x M1 => ∃ p xs, x = .adr p ∧ M1 p = some (.lst xs) ∧ Q (Itl K p) (fun _ M => M p = some (.lst xs)) M1) : WI K (iList K te) ds M Q := ⟨fun σ H hE hM R k =>
  h.run σ H hE hM _ fun v H1 x M1 e1 m1 a1 q1 => by
    obtain ⟨p, xs, rfl, hp, q1⟩ := q1
    cases a1
    obtain ⟨vs, h1, _⟩ := m1 p _ hp
    exact ⟨p, rfl, ⟨vs, SqL.of h1⟩, k _ H1 _ M1 e1 m1 hp q1⟩⟩
theorem wi_rng {Q : It → (Hp → Mm → Prop) → Mm → Prop} (h : WA K t ds M fun xs M1 => ∃ n : Nat, xs = [.int (n : Int)] ∧ n ≤ 1000000 ∧ Q (Itr 0 n) (fun _ _ => True) M1) : WI K (iRng1 t) ds M Q := ⟨fun σ H hE hM R k =>
  h.run σ H hE hM _ fun vs H1 xs M1 e1 m1 a1 q1 => by
    obtain ⟨n, rfl, hn, q1⟩ := q1
    cases a1 with
    | cons r a2 =>
      cases r
      cases a2
      refine ⟨(n : Int), rfl, by omega, by omega, ?_⟩
      rw [Int.toNat_natCast]
      exact k _ H1 _ M1 e1 m1 True.intro q1⟩
theorem wi_zip {Q : It → (Hp → Mm → Prop) → Mm → Prop} (h : WA K t ds M fun zs M1 => ∃ xs ys, zs = [.tup xs, .tup ys] ∧ ∀ a b, Q (RZ.ItzT K a b) (fun H _ => (∃ vs, SqT K H a vs ∧ DAts K H vs xs) ∧ ∃ vs, SqT K H b vs ∧ DAts K H vs ys) M1) : WI K (RZ.iZipA K t) ds M Q := ⟨fun σ H hE hM R k =>
  h.run σ H hE hM _ fun vs H1 zs M1 e1 m1 a1 q1 => by
    obtain ⟨xs, ys, rfl, q1⟩ := q1
    cases a1 with
    | cons r a2 =>
      cases a2 with
      | cons r2 a3 =>
        cases a3
        cases r with
        | @tup a vs _ h1 h2 =>
          cases r2 with
          | @tup b ws _ h3 h4 => exact ⟨a, b, vs, ws, rfl, .inr ⟨h1, h3, k _ H1 _ M1 e1 m1 ⟨⟨vs, h1, h2⟩, ws, h3, h4⟩ (q1 a b)⟩⟩⟩

/-! ### for -/
/-- the walk's own word stays through the turns: for tuples, ranges, zips by itself, for lists as long as the list stays -/
def Keeps (K : PySem.W.Frag) (Kp : Hp → Mm → Prop) (S : Mm → Mm → Prop) : Prop := ∀ H H' M M', Kp H M → ETx K H H' → S M M' → Kp H' M'
theorem keeps_tup {a : Addr} {xs : List Dv} {S : Mm → Mm → Prop} : Keeps K (fun H _ => ∃ vs, SqT K H a vs ∧ DAts K H vs xs) S := fun H H' M M' ⟨vs, h1, h2⟩ e _ => ⟨vs, SqT.etx e h1, h2.mono e⟩
theorem keeps_rng {S : Mm → Mm → Prop} : Keeps K (fun _ _ => True) S := fun _ _ _ _ _ _ _ => True.intro
theorem keeps_zip {a b : Addr} {xs ys : List Dv} {S : Mm → Mm → Prop} : Keeps K (fun H _ => (∃ vs, SqT K H a vs ∧ DAts K H vs xs) ∧ ∃ vs, SqT K H b vs ∧ DAts K H vs ys) S := fun H H' M M' ⟨h1, h2⟩ e s => ⟨keeps_tup (S := S) H H' M M' h1 e s, keeps_tup (S := S) H H' M M' h2 e s⟩
theorem keeps_lst {p : Addr} {xs : List Dv} : Keeps K (fun _ M => M p = some (.lst xs)) (fun M M' => M p = some (.lst xs) → M' p = some (.lst xs)) := fun H H' M M' h _ s => s h
theorem ws_for {wi : TI} {g : TG} (h : WI K wi ds M fun J Kp M1 => ∃ xs, Yl K J Kp xs ∧ ∃ (S : Mm → Mm → Prop) (Pv : Nat → EnvD → Mm → Prop), Keeps K Kp S ∧ (∀ i ds' M', Pv i ds' M' → S M1 M') ∧ Pv 0 ds M1 ∧
    (∀ i x ds' M', xs[i]? = some x → Pv i ds' M' → WG K g x ds' M' fun ds2 M2 => WS K ts ds2 M2 { nx := Pv (i + 1), ct := Pv (i + 1), bk := D.nx, rt := D.rt }) ∧ (∀ ds' M', Pv xs.length ds' M' → D.nx ds' M')) : WS K (tFor wi g ts) ds M D := ⟨fun σ H hE hM R k =>
  h.run σ H hE hM _ fun J H1 Kp M1 e1 m1 kp q1 => by
    obtain ⟨xs, Y, S, Pv, hk, hS, h0, hs, hd⟩ := q1
    refine ⟨fun i m σ' H' => m = xs.length - i ∧ i ≤ xs.length ∧ ∃ ds' M', ETx K H1 H' ∧ EnvAt K H' σ' ds' ∧ MAt K H' M' ∧ Pv i ds' M', ⟨xs.length, by simp, Nat.zero_le _, ds, M1, .refl, hE.mono e1, m1, h0⟩, ?_⟩
    rintro i m σ' H' ⟨rfl, hi, ds', M', e, hE', hM', p⟩
    have kp' : Kp H' M' := hk H1 H' M1 M' kp e (hS i ds' M' p)
    by_cases lt : i < xs.length
    · refine .inr ⟨Y.go i H' M' kp' hM' lt, fun σ2 H2 => ∃ ds2 M2, ETx K H1 H2 ∧ EnvAt K H2 σ2 ds2 ∧ MAt K H2 M2 ∧ Pv (i + 1) ds2 M2, fun σ2 H2 z => ⟨xs.length - (i + 1), by omega, rfl, lt, z⟩, fun v H2 y => ?_⟩
      obtain ⟨x, ex, gr, a⟩ := Y.yld i H' M' v H2 kp' hM' lt y
      have e2 : ETx K H' H2 := .of gr
      refine (hs i x ds' M' ex p).run v σ' H2 a (hE'.mono e2) (hM'.grow gr) _ fun σ3 H3 ds3 M3 e3 hE3 hM3 q3 => ?_
      have e13 : ETx K H1 H3 := (e.trans e2).trans e3
      exact q3.run σ3 H3 hE3 hM3 _ ⟨fun σ4 H4 ds4 M4 e4 hE4 hM4 q4 => ⟨ds4, M4, e13.trans e4, hE4, hM4, q4⟩, fun v H4 d M4 e4 m4 a q => k.rt v H4 d M4 ((e1.trans e13).trans e4) m4 a q,
        fun σ4 H4 ds4 M4 e4 hE4 hM4 q4 => k.nx σ4 H4 ds4 M4 ((e1.trans e13).trans e4) hE4 hM4 q4, fun σ4 H4 ds4 M4 e4 hE4 hM4 q4 => ⟨ds4, M4, e13.trans e4, hE4, hM4, q4⟩⟩
    · have ei : i = xs.length := by omega
      subst ei
      exact .inl ⟨Y.stop H' M' kp' hM', k.nx σ' H' ds' M' (e1.trans e) hE' hM' (hd ds' M' p)⟩⟩

/-! ### list comprehensions -/
/-- a comprehension's target: the slots vs alone are written -/
structure WGC (K : PySem.W.Frag) (g : TG) (vs : List Nat) (x : Dv) (ds : EnvD) (ds2 : EnvD) : Prop where
  run : ∀ v σ H, DAt K H v x → EnvAt K H (wipe σ vs) (wipeD ds vs) → ∀ R : L2.St → Hp → Prop, (∀ σ2, wipe σ2 vs = wipe σ vs → EnvAt K H σ2 ds2 → R σ2 H) → g v (wipe σ vs) H R
theorem wipe_set {σ : L2.St} {j : Nat} {o : Option V} : ∀ {vs : List Nat}, j ∈ vs → wipe (σ.set j o) vs = wipe σ vs
  | [], h => by cases h
  | v :: vs, h => by
    have comm : ∀ (τ : L2.St) (j : Nat) (o : Option V) (vs : List Nat), wipe (τ.set j o) vs = if j ∈ vs then wipe τ vs else (wipe τ vs).set j o := by
      intro τ j o vs
      induction vs with
      | nil => simp [wipe]
      | cons w ws ih =>
        unfold wipe
        rw [ih]
        by_cases h1 : j ∈ ws
        · rw [if_pos h1, if_pos (List.mem_cons_of_mem _ h1)]
        · rw [if_neg h1]
          by_cases h2 : j = w
          · subst h2
            rw [if_pos (List.mem_cons_self ..), List.set_set]
          · rw [if_neg (by simp [h1, h2]), List.set_comm _ _ h2]
    rw [comm, if_pos h]
theorem wipe_wipe {σ : L2.St} : ∀ {vs : List Nat}, wipe (wipe σ vs) vs = wipe σ vs := by
  intro vs
  have gen : ∀ ws us : List Nat, (∀ w ∈ ws, w ∈ us) → wipe (wipe σ ws) us = wipe σ us := by
    intro ws
    induction ws with
    | nil => intro us _; rfl
    | cons w ws ih =>
      intro us h
      show wipe ((wipe σ ws).set w none) us = _
      rw [wipe_set (h w (List.mem_cons_self ..)), ih us fun z hz => h z (List.mem_cons_of_mem _ hz)]
  exact gen vs vs fun _ h => h
theorem wgc_name : WGC K (gName j) [j] x ds ((wipeD ds [j]).set j (some x)) := ⟨fun v σ H a hE R k => k _ (by rw [wipe_set (List.mem_singleton.mpr rfl), wipe_wipe]) (hE.set a)⟩
theorem wgc_pair {i j : Nat} {x y : Dv} {vs : List Nat} (hi : i ∈ vs) (hj : j ∈ vs) : WGC K (gTup K 2 (gCons (gName i) (gCons (gName j) gNil))) vs (.tup [x, y]) ds (((wipeD ds vs).set i (some x)).set j (some y)) := ⟨fun v σ H a hE R k => by
  cases a with
  | tup h1 h2 =>
    cases h2 with
    | cons r1 a2 =>
      cases a2 with
      | cons r2 a3 =>
        cases a3
        refine ⟨_, _, rfl, h1, rfl, _, _, rfl, _, _, rfl, rfl, ?_⟩
        exact k _ (by rw [wipe_set hj, wipe_set hi, wipe_wipe]) ((hE.set r1).set r2)⟩
/-- [elt for .. in .. if ..]: the items' list is told by α; the tests and the element change nothing that stood -/
theorem we_lc {α : Type} {wi : TI} {g : TG} {vs : List Nat} (h : WI K wi ds M fun J Kp M1 => ∃ (ps : List α) (en : α → Dv) (keep : α → Bool) (out : α → Dv), Yl K J Kp (ps.map en) ∧ Keeps K Kp MEx ∧ ps.length ≤ 1000000 ∧
    (∀ p ∈ ps, ∀ M2, MEx M1 M2 → ∃ ds2, WGC K g vs (en p) ds ds2 ∧ WT K tt ds2 M2 fun b M3 => MEx M2 M3 ∧ b = keep p ∧ (b = true → WE K te ds2 M3 fun y M4 => MEx M2 M4 ∧ y = out p)) ∧
    (∀ q M2, M1 q = none → MEx M1 M2 → M2 q = some (.lst ((ps.filter keep).map out)) → Q (.adr q) M2)) : WE K (tLc wi g tt te vs) ds M Q := ⟨fun σ H hE hM R k =>
  h.run σ H hE hM _ fun J H1 Kp M1 e1 m1 kp q1 => by
    obtain ⟨ps, en, keep, out, Y, hk, hl, hs, hd⟩ := q1
    intro D hD
    have nD := m1.none hD
    have eD : ETx K H1 (upd H1 D (.lst [])) := .new hD
    have len : (ps.map en).length = ps.length := List.length_map _
    refine ⟨fun i m H' => m = ps.length - i ∧ i ≤ ps.length ∧ ∃ M', ETx K H1 H' ∧ MAt K H' M' ∧ MEx M1 M' ∧ M' D = some (.lst (((ps.take i).filter keep).map out)),
      ⟨ps.length, by simp, Nat.zero_le _, mupd M1 D (.lst []), eD, m1.put eD (.ofL upd_same .nil), MEx.new nD, mupd_same⟩, ?_⟩
    rintro i m H' ⟨rfl, hi, M', e, hM', mx, hDi⟩
    have kp' : Kp H' M' := hk H1 H' M1 M' kp e mx
    by_cases lt : i < ps.length
    · refine .inr ⟨Y.go i H' M' kp' hM' (by rw [len]; exact lt), fun H2 => ∃ M2, ETx K H1 H2 ∧ MAt K H2 M2 ∧ MEx M1 M2 ∧ M2 D = some (.lst (((ps.take (i + 1)).filter keep).map out)), fun H2 z => ⟨ps.length - (i + 1), by omega, rfl, lt, z⟩, fun v H2 y => ?_⟩
      obtain ⟨x, ex, gr, a⟩ := Y.yld i H' M' v H2 kp' hM' (by rw [len]; exact lt) y
      have ei : ps[i]? = some ps[i] := List.getElem?_eq_getElem lt
      rw [List.getElem?_map, ei] at ex
      have ex : some (en ps[i]) = some x := ex
      cases ex
      have e2 : ETx K H' H2 := .of gr
      have tk : ps.take (i + 1) = ps.take i ++ [ps[i]] := by rw [List.take_add_one, ei]; rfl
      obtain ⟨ds2, hg, ht⟩ := hs ps[i] (List.getElem_mem lt) M' mx
      have m2 : MAt K H2 M' := hM'.grow gr
      refine hg.run v σ H2 a (((hE.mono e1).mono (e.trans e2)).wipe vs) _ fun σ2 w hE2 => ⟨w, ?_⟩
      refine ht.run σ2 H2 hE2 m2 _ fun b H3 M3 e3 m3 q3 => ?_
      obtain ⟨mx3, rfl, q3⟩ := q3
      cases hb : keep ps[i] with
      | true =>
        refine iteT ((q3 hb).run σ2 H3 (hE2.mono e3) m3 _ fun y H4 yd M4 e4 m4 a4 q4 => ?_)
        obtain ⟨mx4, rfl⟩ := q4
        obtain ⟨acc, h1, h2⟩ := m4 D _ (mx4 _ _ hDi)
        refine ⟨acc, h1, ?_, ?_⟩
        · rw [h2.length, List.length_map]
          refine Nat.lt_of_le_of_lt (Nat.le_trans (List.length_filter_le _ _) ?_) (show 1000000 < sizeLine by decide)
          rw [List.length_take]
          omega
        · have e5 : ETx K H4 (upd H4 D (.lst (acc ++ [y]))) := .lst h1
          refine ⟨mupd M4 D (.lst ((((ps.take i).filter keep).map out) ++ [out ps[i]])), ((((e.trans e2).trans e3).trans e4).trans e5), m4.put e5 (.ofL upd_same ((h2.append (.cons a4 .nil)).mono e5)), fun b o hb' => ?_, ?_⟩
          · have nb : b ≠ D := fun z => by
              rw [z, nD] at hb'
              cases hb'
            rw [mupd_ne nb]
            exact mx4 _ _ (mx _ _ hb')
          · rw [mupd_same, tk, List.filter_append, List.map_append, List.filter_cons, if_pos hb]
            rfl
      | false =>
        refine iteF ⟨M3, (e.trans e2).trans e3, m3, mx.trans mx3, ?_⟩
        rw [mx3 _ _ hDi, tk, List.filter_append, List.filter_cons, if_neg (by rw [hb]; exact Bool.false_ne_true), List.filter_nil, List.append_nil]
    · have ei : i = ps.length := by omega
      subst ei
      refine .inl ⟨by rw [← len]; exact Y.stop H' M' kp' hM', ?_⟩
      rw [List.take_of_length_le (Nat.le_refl _)] at hDi
      exact k _ H' _ M' (e1.trans e) hM' (.adr D) (hd D M' nD mx hDi)⟩
/-- no tests -/
theorem filter_all {α : Type} (ps : List α) : ps.filter (fun _ => true) = ps := List.filter_eq_self.mpr fun _ _ => rfl
theorem wt_yes {QT : Bool → Mm → Prop} (q : QT true M) : WT K tYes ds M QT := ⟨fun σ H hE hM R k => k true H M .refl hM q⟩
end
end FS
set_option maxHeartbeats 4000000
/-! The data layer: built-ins by values, methods, defs. -/
namespace FS
open PySem PySem.Spec PyProof.Rows L2
section
variable {K : PySem.W.Frag} {ds : EnvD} {M : Mm} {D : DEnds} {Q : Dv → Mm → Prop} {te ta tb tc : TE} {tt : TT} {t : TA} {d x y : Dv} {i j : Nat}
/-! ### built-ins -/
theorem RL.one {r : List V → Hp → VK → Prop} (h : ∀ v H, DAt K H v x → MAt K H M → ∀ R : VK, (∀ u H' d M', ETx K H H' → MAt K H' M' → DAt K H' u d → Q d M' → R u H') → r [v] H R) : RL K r [x] M Q := ⟨fun vs H a hM R k => by
  cases a with
  | cons r1 a2 =>
    cases a2
    exact h _ H r1 hM R k⟩
theorem RL.two {r : List V → Hp → VK → Prop} (h : ∀ v w H, DAt K H v x → DAt K H w y → MAt K H M → ∀ R : VK, (∀ u H' d M', ETx K H H' → MAt K H' M' → DAt K H' u d → Q d M' → R u H') → r [v, w] H R) : RL K r [x, y] M Q := ⟨fun vs H a hM R k => by
  cases a with
  | cons r1 a2 =>
    cases a2 with
    | cons r2 a3 =>
      cases a3
      exact h _ _ H r1 r2 hM R k⟩
abbrev rLenS (K : PySem.W.Frag) : List V → Hp → VK → Prop := fun xs H Q => ∃ p ys, xs = [.ref p] ∧ (SqL K H p ys ∨ SqT K H p ys) ∧ Q (.int ys.length) H
theorem rl_lenT {xs : List Dv} (q : Q (.int (xs.length : Int)) M) : RL K (rLenS K) [.tup xs] M Q := .one fun v H a hM R k => by
  cases a with
  | tup h1 h2 => exact ⟨_, _, rfl, .inr h1, k _ H _ M .refl hM (by rw [← h2.length]; exact .int _) q⟩
theorem rl_lenL {p : Addr} {xs : List Dv} (hp : M p = some (.lst xs)) (q : Q (.int (xs.length : Int)) M) : RL K (rLenS K) [.adr p] M Q := .one fun v H a hM R k => by
  cases a
  obtain ⟨ws, h1, h2⟩ := hM p _ hp
  exact ⟨_, _, rfl, .inl (SqL.of h1), k _ H _ M .refl hM (by rw [← h2.length]; exact .int _) q⟩
theorem rl_lenF {ns : List Int} (q : Q (.int (ns.length : Int)) M) : RL K (rLenS K) [.frl ns] M Q := .one fun v H a hM R k => by
  cases a with
  | frl h => exact ⟨_, _, rfl, .inl h.sq, k _ H _ M .refl hM (by rw [List.length_map]; exact .int _) q⟩
theorem ints_of {H : Hp} : ∀ {ns : List Int} {vs : List V}, DAts K H vs (ns.map Dv.int) → vs = ns.map V.int
  | [], _, h => by
    cases h
    rfl
  | n :: ns, _, h => by
    cases h with
    | cons r t =>
      cases r
      rw [ints_of t]
      rfl
theorem bls_of {H : Hp} : ∀ {ns : List Bool} {vs : List V}, DAts K H vs (ns.map Dv.bl) → vs = ns.map V.bl
  | [], _, h => by
    cases h
    rfl
  | n :: ns, _, h => by
    cases h with
    | cons r t =>
      cases r
      rw [bls_of t]
      rfl
theorem rl_sum {p : Addr} {ns : List Int} (hp : M p = some (.lst (ns.map .int))) (q : Q (.int ns.sum) M) : RL K (rSum K) [.adr p] M Q := .one fun v H a hM R k => by
  cases a
  obtain ⟨ws, h1, h2⟩ := hM p _ hp
  rw [ints_of h2] at h1
  exact ⟨_, ns, rfl, SqL.of h1, k _ H _ M .refl hM (.int _) q⟩
theorem rl_max {p : Addr} {ns : List Int} (hp : M p = some (.lst (ns.map .int))) (h0 : 0 < ns.length) (q : ∀ m, m ∈ ns → (∀ y, y ∈ ns → y ≤ m) → Q (.int m) M) : RL K (rMax K) [.adr p] M Q := .one fun v H a hM R k => by
  cases a
  obtain ⟨ws, h1, h2⟩ := hM p _ hp
  rw [ints_of h2] at h1
  exact ⟨_, ns, rfl, SqL.of h1, h0, fun m a b => k _ H _ M .refl hM (.int _) (q m a b)⟩
theorem rl_all {p : Addr} {bs : List Bool} (hp : M p = some (.lst (bs.map .bl))) (q : Q (.bl (bs.all id)) M) : RL K (rAll K) [.adr p] M Q := .one fun v H a hM R k => by
  cases a
  obtain ⟨ws, h1, h2⟩ := hM p _ hp
  rw [bls_of h2] at h1
  exact ⟨_, bs, rfl, SqL.of h1, k _ H _ M .refl hM (.bl _) q⟩
theorem rl_any {p : Addr} {bs : List Bool} (hp : M p = some (.lst (bs.map .bl))) (q : Q (.bl (bs.any id)) M) : RL K (rAny K) [.adr p] M Q := .one fun v H a hM R k => by
  cases a
  obtain ⟨ws, h1, h2⟩ := hM p _ hp
  rw [bls_of h2] at h1
  exact ⟨_, bs, rfl, SqL.of h1, k _ H _ M .refl hM (.bl _) q⟩
/-- sum of a tuple of ints -/
def rSumT (K : PySem.W.Frag) : List V → Hp → VK → Prop := fun vs H Q => ∃ (a : Addr) (ns : List Int), vs = [V.ref a] ∧ SqT K H a (ns.map V.int) ∧ Q (.int ns.sum) H
theorem cr_sumT {X : Cx} (hc : X.calm = true) : CallR X (.builtin "sum") (rSumT X.K) := by
  intro pins s σ H vs us Q I r h
  obtain ⟨a, ns, rfl, hs, q⟩ := h
  obtain ⟨its, rv, hl, hz⟩ := I.tuple hs
  rw [Vals.ref1 r]
  have hi := intsAre_of rv
  obtain ⟨xs, hx⟩ := hi.allInts.items
  have hn : numsOf its.toArray.toList = ns := by rw [show its.toArray.toList = its from rfl, hi.numsOf]
  have hl' : s.heap.IsTuple a its.toArray := hl
  rw [hx] at hl' hn
  rw [nums_intItems] at hn
  refine PySem.W.ktm_sumG (I.ok.hd hc) hl' fun h' tk t' hk => ?_
  refine ⟨.int ns.sum, H, I.kept hk, ?_, q⟩
  rw [preSum_eq, List.take_of_length_le (by simp), hn]
  exact ⟨_, rfl⟩
theorem rl_sumT {ns : List Int} (q : Q (.int ns.sum) M) : RL K (rSumT K) [.tup (ns.map .int)] M Q := .one fun v H a hM R k => by
  cases a with
  | tup h1 h2 =>
    rw [ints_of h2] at h1
    exact ⟨_, ns, rfl, h1, k _ H _ M .refl hM (.int _) q⟩
theorem ru_tupL {p : Addr} {xs : List Dv} (hp : M p = some (.lst xs)) (q : Q (.tup xs) M) : RU K (kTup K) (.adr p) M Q := ⟨fun v H a hM R k => by
  cases a
  obtain ⟨ws, h1, h2⟩ := hM p _ hp
  refine .inl ⟨p, ws, rfl, SqL.of h1, fun z hz => ?_⟩
  have e : ETx K H (upd H z (.tup ws)) := .new hz
  exact k _ _ _ M e (hM.grow fun a o w => by rw [upd_ne (ne_of_none w hz)]; exact w) (.tup (SqT.of upd_same) (h2.mono e)) q⟩
abbrev rListS (K : PySem.W.Frag) : List V → Hp → VK → Prop := fun xs H Q => ∃ p ys, xs = [.ref p] ∧ (SqL K H p ys ∨ SqT K H p ys) ∧ ∀ l, H l = none → Q (.ref l) (upd H l (.lst ys))
theorem rl_listT {xs : List Dv} (q : ∀ p, M p = none → Q (.adr p) (mupd M p (.lst xs))) : RL K (rListS K) [.tup xs] M Q := .one fun v H a hM R k => by
  cases a with
  | @tup _ ws _ h1 h2 =>
    refine ⟨_, _, rfl, .inr h1, fun z hz => ?_⟩
    have e : ETx K H (upd H z (.lst ws)) := .new hz
    exact k _ _ _ _ e (hM.put e (.ofL upd_same (h2.mono e))) (.adr z) (q z (hM.none hz))
abbrev rInt1 : List V → Hp → VK → Prop := fun xs H Q => (∃ i, xs = [.int i] ∧ Q (.int i) H) ∨ ∃ k, xs = [.bl k] ∧ Q (.int (if k then 1 else 0)) H
theorem rl_int {n : Int} (q : Q (.int n) M) : RL K rInt1 [.int n] M Q := .one fun v H a hM R k => by
  cases a
  exact .inl ⟨n, rfl, k _ H _ M .refl hM (.int n) q⟩
abbrev rAbs : List V → Hp → VK → Prop := fun xs H Q => ∃ i, xs = [.int i] ∧ Q (.int (if i < 0 then -i else i)) H
theorem rl_abs {n : Int} (q : Q (.int (if n < 0 then -n else n)) M) : RL K rAbs [.int n] M Q := .one fun v H a hM R k => by
  cases a
  exact ⟨n, rfl, k _ H _ M .refl hM (.int _) q⟩
theorem rl_divmod {C : Int → Int → Prop} {a b : Int} (c : C a b) (q : Q (.tup [.int (a / b), .int (a % b)]) M) :
    RL K (fun xs H Q => ∃ i j, xs = [.int i, .int j] ∧ C i j ∧ ∀ p, H p = none → Q (.ref p) (upd H p (.tup [.int (i / j), .int (i % j)]))) [.int a, .int b] M Q := .two fun v w H h1 h2 hM R k => by
  cases h1
  cases h2
  refine ⟨a, b, rfl, c, fun z hz => ?_⟩
  have e : ETx K H (upd H z (.tup [.int (a / b), .int (a % b)])) := .new hz
  exact k _ _ _ M e (hM.grow fun a o w => by rw [upd_ne (ne_of_none w hz)]; exact w) (.tup (SqT.of upd_same) (.cons (.int _) (.cons (.int _) .nil))) q
def tyD : Dv → String
  | .non => "NoneType"
  | .bl _ => "bool"
  | .int _ => "int"
  | .str _ => "str"
  | .tup _ => "tuple"
  | _ => "object"
theorem rl_isi {n : String} {b : Bool} (h : kitB (tyD x) n = some b) (hx : (match x with | .adr _ => false | .ty _ => false | .core => false | .frl _ => false | _ => true) = true) (q : Q (.bl b) M) : RL K (rIsi K) [x, .ty n] M Q := .two fun v w H h1 h2 hM R k => by
  cases h2
  refine ⟨v, .ty n, .type (tyD x), .type n, b, rfl, .ty n, ?_, kit_ty h, k _ H _ M .refl hM (.bl b) q⟩
  cases h1 with
  | non => exact .base .non
  | bl b => exact .base (.bl b)
  | int i => exact .base (.int i)
  | str z => exact .base (.str z)
  | tup h1 h2 =>
    rcases h1 with (h1 | ⟨o, h1⟩) | ⟨o, its, m, h1, h2, _⟩
    · exact .base (.tup h1)
    · exact .fTuple h1
    · exact .kTuple h1 h2
  | adr a => cases hx
  | ty n => cases hx
  | core _ _ => cases hx
  | frl _ => cases hx

/-! ### methods of lists -/
theorem we_append (h : WE K ta ds M fun o M1 => ∃ p, o = .adr p ∧ (∃ ys, M1 p = some (.lst ys)) ∧ WE K te ds M1 fun x M2 => ∃ xs, M2 p = some (.lst xs) ∧ xs.length < 1000000 ∧ Q .non (mupd M2 p (.lst (xs ++ [x])))) : WE K (tBM K "list" rAppend ta (tCons te tNil)) ds M Q := ⟨fun σ H hE hM R k =>
  h.run σ H hE hM _ fun v H1 o M1 e1 m1 a1 q1 => by
    obtain ⟨p, rfl, ⟨ys, hy⟩, q1⟩ := q1
    cases a1
    obtain ⟨us, g1, g2⟩ := m1 p _ hy
    refine ⟨.inl ⟨rfl, us, SqL.of g1⟩, q1.run σ H1 (hE.mono e1) m1 _ fun w H2 x M2 e2 m2 a2 q2 => ?_⟩
    obtain ⟨xs, hp, hl, q⟩ := q2
    obtain ⟨ws, h1, h2⟩ := m2 p _ hp
    refine ⟨p, ws, w, rfl, rfl, h1, Nat.lt_of_lt_of_le (by rw [h2.length]; exact hl) (by decide), ?_⟩
    have e3 : ETx K H2 (upd H2 p (.lst (ws ++ [w]))) := .lst h1
    exact k _ _ _ _ ((e1.trans e2).trans e3) (m2.put e3 (.ofL upd_same ((h2.append (.cons a2 .nil)).mono e3))) .non q⟩
theorem we_extend (h : WE K ta ds M fun o M1 => ∃ p, o = .adr p ∧ (∃ ys, M1 p = some (.lst ys)) ∧ WE K te ds M1 fun x M2 => ∃ r xs ys, x = .adr r ∧ M2 p = some (.lst xs) ∧ M2 r = some (.lst ys) ∧ xs.length + ys.length ≤ 1000000 ∧ Q .non (mupd M2 p (.lst (xs ++ ys)))) : WE K (tBM K "list" rExtend ta (tCons te tNil)) ds M Q := ⟨fun σ H hE hM R k =>
  h.run σ H hE hM _ fun v H1 o M1 e1 m1 a1 q1 => by
    obtain ⟨p, rfl, ⟨ys, hy⟩, q1⟩ := q1
    cases a1
    obtain ⟨us, g1, g2⟩ := m1 p _ hy
    refine ⟨.inl ⟨rfl, us, SqL.of g1⟩, q1.run σ H1 (hE.mono e1) m1 _ fun w H2 x M2 e2 m2 a2 q2 => ?_⟩
    obtain ⟨r, xs, zs, rfl, hp, hr, hl, q⟩ := q2
    cases a2
    obtain ⟨ws, h1, h2⟩ := m2 p _ hp
    obtain ⟨vs, h3, h4⟩ := m2 r _ hr
    refine ⟨p, r, ws, vs, rfl, rfl, h1, h3, Nat.le_trans (by rw [h2.length, h4.length]; exact hl) (by decide), ?_⟩
    have e3 : ETx K H2 (upd H2 p (.lst (ws ++ vs))) := .lst h1
    exact k _ _ _ _ ((e1.trans e2).trans e3) (m2.put e3 (.ofL upd_same ((h2.append h4).mono e3))) .non q⟩
theorem we_pop (h : WE K ta ds M fun o M1 => ∃ p xs x, o = .adr p ∧ M1 p = some (.lst xs) ∧ xs[xs.length - 1]? = some x ∧ Q x (mupd M1 p (.lst xs.dropLast))) : WE K (tBM0 K "list" rPop ta) ds M Q := ⟨fun σ H hE hM R k =>
  h.run σ H hE hM _ fun v H1 o M1 e1 m1 a1 q1 => by
    obtain ⟨p, xs, x, rfl, hp, hx, q⟩ := q1
    cases a1
    obtain ⟨ws, h1, h2⟩ := m1 p _ hp
    obtain ⟨w, hw, r⟩ := h2.get hx
    refine ⟨.inl ⟨rfl, ws, SqL.of h1⟩, p, ws, w, rfl, rfl, h1, by rw [h2.length]; exact hw, ?_⟩
    have e3 : ETx K H1 (upd H1 p (.lst ws.dropLast)) := .lst h1
    exact k _ _ _ _ (e1.trans e3) (m1.put e3 (.ofL upd_same (h2.dropLast.mono e3))) (r.mono e3) q⟩
theorem we_popAt (h : WE K ta ds M fun o M1 => ∃ p, o = .adr p ∧ (∃ ys, M1 p = some (.lst ys)) ∧ WE K te ds M1 fun n M2 => ∃ (k : Nat) (xs : List Dv) (x : Dv), n = .int (k : Int) ∧ M2 p = some (.lst xs) ∧ k < 1000000 ∧ xs[k]? = some x ∧ Q x (mupd M2 p (.lst (xs.eraseIdx k)))) : WE K (tBM K "list" rPopAt ta (tCons te tNil)) ds M Q := ⟨fun σ H hE hM R k =>
  h.run σ H hE hM _ fun v H1 o M1 e1 m1 a1 q1 => by
    obtain ⟨p, rfl, ⟨ys, hy⟩, q1⟩ := q1
    cases a1
    obtain ⟨us, g1, g2⟩ := m1 p _ hy
    refine ⟨.inl ⟨rfl, us, SqL.of g1⟩, q1.run σ H1 (hE.mono e1) m1 _ fun w H2 n M2 e2 m2 a2 q2 => ?_⟩
    obtain ⟨c, xs, x, rfl, hp, hc, hx, q⟩ := q2
    cases a2
    obtain ⟨ws, h1, h2⟩ := m2 p _ hp
    obtain ⟨w, hw, r⟩ := h2.get hx
    have lt : c < ws.length := (List.getElem?_eq_some_iff.mp hw).1
    refine ⟨p, ws, (c : Int), c, w, rfl, rfl, h1, by omega, by omega, ?_, hw, ?_⟩
    · unfold seqIndex?
      simp only [Int.toNat_natCast]
      split <;> first | rfl | omega | skip
      all_goals simp_all
      all_goals omega
    · have e3 : ETx K H2 (upd H2 p (.lst (ws.eraseIdx c))) := .lst h1
      exact k _ _ _ _ ((e1.trans e2).trans e3) (m2.put e3 (.ofL upd_same ((h2.eraseIdx c).mono e3))) (r.mono e3) q⟩
theorem toV_ints (ns : List Int) : (ns.map Dv.int).map toV = ns.map V.int := by rw [List.map_map]; rfl
/-- xs.index(n), whole numbers, n there -/
theorem we_index (h : WE K ta ds M fun o M1 => ∃ p, o = .adr p ∧ (∃ ys, M1 p = some (.lst ys)) ∧ WE K te ds M1 fun n M2 => ∃ (ns : List Int) (m : Int), n = .int m ∧ M2 p = some (.lst (ns.map .int)) ∧ m ∈ ns ∧ Q (.int (ns.idxOf m : Int)) M2) : WE K (tBM K "list" (rIndex K) ta (tCons te tNil)) ds M Q := ⟨fun σ H hE hM R k =>
  h.run σ H hE hM _ fun v H1 o M1 e1 m1 a1 q1 => by
    obtain ⟨p, rfl, ⟨ys, hy⟩, q1⟩ := q1
    cases a1
    obtain ⟨us, g1, g2⟩ := m1 p _ hy
    refine ⟨.inl ⟨rfl, us, SqL.of g1⟩, q1.run σ H1 (hE.mono e1) m1 _ fun w H2 n M2 e2 m2 a2 q2 => ?_⟩
    obtain ⟨ns, m, rfl, hp, hm, q⟩ := q2
    cases a2
    obtain ⟨ws, h1, h2⟩ := m2 p _ hp
    rw [ints_of h2] at h1
    have hlt := List.idxOf_lt_length_of_mem hm
    refine ⟨p, _, _, ns.idxOf m, .int m, rfl, rfl, SqL.of h1, rfl, ?_, ?_, ?_, fun c z hc hz => ?_, k _ H2 _ M2 (e1.trans e2) m2 (.int _) q⟩
    · rw [List.all_eq_true]
      intro z hz
      obtain ⟨n, _, rfl⟩ := List.mem_map.mp hz
      rfl
    · rw [List.getElem?_map, List.getElem?_eq_getElem hlt, List.getElem_idxOf hlt]
      rfl
    · show (m == m) = true
      exact beq_self_eq_true m
    · rw [List.getElem?_map] at hz
      have hc' : c < ns.length := Nat.lt_trans hc hlt
      rw [List.getElem?_eq_getElem hc'] at hz
      cases hz
      show (ns[c] == m) = false
      have h3 := List.not_of_lt_findIdx (p := fun x => x == m) (xs := ns) (i := c) hc
      simpa using h3⟩

/-! ### dicts -/
theorem paired_any {H : Hp} {κ : Type} [DecidableEq κ] (k : κ) : ∀ {vs : List (κ × V)} {kvs : List (κ × Dv)}, Paired (fun (p : κ × V) (q : κ × Dv) => p.1 = q.1 ∧ DAt K H p.2 q.2) vs kvs → (vs.any fun kv => decide (kv.1 = k)) = kvs.any fun kv => decide (kv.1 = k)
  | _, _, .nil => rfl
  | _, _, .cons h t => by rw [List.any_cons, List.any_cons, h.1, paired_any k t]
def putD (kvs : List (Key × Dv)) (k : Key) (v : Dv) : List (Key × Dv) :=
  if (kvs.any fun kv => decide (kv.1 = k)) = true then kvs.map (fun kv => if kv.1 = k then (kv.1, v) else kv) else kvs ++ [(k, v)]
def valD (kvs : List (Key × Dv)) (k : Key) : Option Dv := (kvs.find? fun kv => decide (kv.1 = k)).map (·.2)
theorem put_map {H : Hp} {k : Key} {v : V} (r : DAt K H v x) : ∀ {vs : List (Key × V)} {kvs : List (Key × Dv)}, Paired (fun (p : Key × V) (q : Key × Dv) => p.1 = q.1 ∧ DAt K H p.2 q.2) vs kvs →
    Paired (fun (p : Key × V) (q : Key × Dv) => p.1 = q.1 ∧ DAt K H p.2 q.2) (vs.map (fun kv => if kv.1 = k then (kv.1, v) else kv)) (kvs.map (fun kv => if kv.1 = k then (kv.1, x) else kv))
  | _, _, .nil => .nil
  | a :: _, b :: _, .cons h1 t => by
    refine .cons ?_ (put_map r t)
    show (if a.1 = k then (a.1, v) else a).1 = (if b.1 = k then (b.1, x) else b).1 ∧ DAt K H (if a.1 = k then (a.1, v) else a).2 (if b.1 = k then (b.1, x) else b).2
    rw [h1.1]
    by_cases e : b.1 = k
    · rw [if_pos e, if_pos e]
      exact ⟨rfl, r⟩
    · rw [if_neg e, if_neg e]
      exact h1
theorem ints_keys {H : Hp} : ∀ {vs : List (Key × V)} {kvs : List (Key × Dv)}, Paired (fun (p : Key × V) (q : Key × Dv) => p.1 = q.1 ∧ DAt K H p.2 q.2) vs kvs → (∀ q ∈ kvs, ∃ j, q.1 = .inl j) → ∀ z ∈ vs, ∃ j, z.1 = .inl j
  | _, _, .nil, _ => fun z hz => by cases hz
  | a :: _, b :: _, .cons h t, hk => fun z hz => by
    rcases List.mem_cons.mp hz with rfl | hz
    · obtain ⟨j, e⟩ := hk _ (List.mem_cons_self ..)
      exact ⟨j, h.1.trans e⟩
    · exact ints_keys t (fun q hq => hk q (List.mem_cons_of_mem _ hq)) z hz
theorem put_rel {H : Hp} {vs : List (Key × V)} {kvs : List (Key × Dv)} {k : Key} {v : V} (h : Paired (fun (p : Key × V) (q : Key × Dv) => p.1 = q.1 ∧ DAt K H p.2 q.2) vs kvs) (r : DAt K H v x) :
    Paired (fun (p : Key × V) (q : Key × Dv) => p.1 = q.1 ∧ DAt K H p.2 q.2) (putK vs k v) (putD kvs k x) := by
  unfold putK putD
  rw [paired_any k h]
  split
  · exact put_map r h
  · exact Paired.snoc h ⟨rfl, r⟩
theorem val_rel {H : Hp} {vs : List (Key × V)} {kvs : List (Key × Dv)} {k : Key} (h : Paired (fun (p : Key × V) (q : Key × Dv) => p.1 = q.1 ∧ DAt K H p.2 q.2) vs kvs) (e : valD kvs k = some x) : ∃ v, valV vs k = some v ∧ DAt K H v x := by
  induction h with
  | nil => cases e
  | @cons a b l m h1 t ih =>
    by_cases z : b.1 = k
    · have e1 : valD (b :: m) k = some b.2 := by simp [valD, List.find?_cons, z]
      rw [e1] at e
      cases e
      exact ⟨a.2, valV_pos (h1.1.trans z), h1.2⟩
    · have e1 : valD (b :: m) k = valD m k := by simp [valD, List.find?_cons, z]
      rw [e1] at e
      obtain ⟨v, h2, h3⟩ := ih e
      exact ⟨v, by rw [valV_neg (fun w => z (h1.1.symm.trans w))]; exact h2, h3⟩
/-- a key, as data -/
def keyD : Key → Dv
  | .inl i => .int i
  | .inr z => .str z
theorem key_rel {H : Hp} {v : V} {k : Key} (h : DAt K H v (keyD k)) : v = kV k := by
  cases k <;> (cases h; rfl)
/-- a dict whose keys are ints is not that of the core words -/
theorem not_core {kvs : List (Key × V)} (h : ∀ p ∈ kvs, ∃ i, p.1 = .inl i) : ¬ CoreKV K kvs coreTab := fun c => by
  cases c with
  | cons h1 _ =>
    obtain ⟨i, e⟩ := h _ (List.mem_cons_self ..)
    rw [h1.1] at e
    cases e
theorem HOAt.ofD {H : Hp} {a : Addr} {vs : List (Key × V)} {kvs : List (Key × Dv)} (h : H a = some (.dK vs)) (r : Paired (fun (p : Key × V) (q : Key × Dv) => p.1 = q.1 ∧ DAt K H p.2 q.2) vs kvs) (n : ¬ CoreKV K vs coreTab) : HOAt K H a (.dct kvs) := ⟨vs, h, r, n⟩
/-- d[k] = v, d a dict with int keys -/
theorem ws_dput {td ty tv : TE} (h : WE K tv ds M fun v M1 => WE K td ds M1 fun o M2 => WE K ty ds M2 fun n M3 => ∃ p i kvs, o = .adr p ∧ n = .int i ∧ M3 p = some (.dct kvs) ∧ (∀ q ∈ kvs, ∃ j, q.1 = .inl j) ∧ kvs.length < 1000000 ∧ D.nx ds (mupd M3 p (.dct (putD kvs (.inl i) v)))) : WS K (sDPut td ty tv) ds M D := ⟨fun σ H hE hM R k =>
  h.run σ H hE hM _ fun v H1 xv M1 e1 m1 a1 q1 => q1.run σ H1 (hE.mono e1) m1 _ fun o H2 od M2 e2 m2 a2 q2 => q2.run σ H2 (hE.mono (e1.trans e2)) m2 _ fun n H3 nd M3 e3 m3 a3 q3 => by
    obtain ⟨p, i, kvs, rfl, rfl, hp, hk, hl, q⟩ := q3
    cases a2
    cases a3
    obtain ⟨vs, h1, h2, h3⟩ := m3 p _ hp
    have hlen : vs.length = kvs.length := Paired.length h2
    refine ⟨p, _, rfl, DPut.k (k := .inl i) (v := v) h1 (Nat.lt_of_lt_of_le (by rw [hlen]; exact hl) (by decide)), ?_⟩
    have e4 : ETx K H3 (upd H3 p (.dK (putK vs (.inl i) v))) := .dct h1 h3
    have r := put_rel (k := .inl i) h2 (a1.mono (e2.trans e3))
    refine k.nx σ _ ds _ (((e1.trans e2).trans e3).trans e4) (hE.mono (((e1.trans e2).trans e3).trans e4)) (m3.put e4 (HOAt.ofD upd_same (paired_mono (fun a b z => ⟨z.1, z.2.mono e4⟩) r) ?_)) q
    refine not_core fun z hz => ?_
    have ks := ints_keys h2 hk
    unfold putK at hz
    split at hz
    · obtain ⟨w, hw, rfl⟩ := List.mem_map.mp hz
      obtain ⟨j, e⟩ := ks w hw
      split
      · exact ⟨j, e⟩
      · exact ⟨j, e⟩
    · rcases List.mem_append.mp hz with hz | hz
      · exact ks z hz
      · rw [List.mem_singleton.mp hz]
        exact ⟨i, rfl⟩⟩
/-- d[k], d a dict of the store -/
theorem we_dget {td ty : TE} (h : WE K td ds M fun o M1 => WE K ty ds M1 fun n M2 => ∃ p k kvs v, o = .adr p ∧ n = keyD k ∧ M2 p = some (.dct kvs) ∧ valD kvs k = some v ∧ Q v M2) : WE K (tDGet td ty) ds M Q := ⟨fun σ H hE hM R k =>
  h.run σ H hE hM _ fun o H2 od M2 e2 m2 a2 q2 => q2.run σ H2 (hE.mono e2) m2 _ fun n H3 nd M3 e3 m3 a3 q3 => by
    obtain ⟨p, kk, kvs, v, rfl, rfl, hp, hv, q⟩ := q3
    cases a2
    rw [key_rel a3]
    obtain ⟨vs, h1, h2, h3⟩ := m3 p _ hp
    obtain ⟨w, g1, g2⟩ := val_rel h2 hv
    exact ⟨p, w, rfl, by rw [← g1]; exact DGet.k h1, k w H3 v M3 (e2.trans e3) m3 g2 q⟩⟩
theorem core_val {vs : List (Key × V)} {H : Hp} {z : Str} {ns : List Int} : ∀ {tab : List (Str × List Int)}, CoreKV K vs tab → tab.lookup z = some ns → ∃ a, valV vs (.inr z) = some (.ref a) ∧ KTup K a (ns.map .int) := by
  intro tab h e
  induction h with
  | nil => cases e
  | @cons a b l m h1 t ih =>
    by_cases w : z = b.1
    · have e1 : List.lookup z (b :: m) = some b.2 := by
        obtain ⟨b1, b2⟩ := b
        simp only at w
        subst w
        simp
      rw [e1] at e
      cases e
      obtain ⟨p, hp, hk⟩ := h1.2
      exact ⟨p, by rw [valV_pos (show a.1 = .inr z by rw [h1.1, w]), hp], hk⟩
    · have e1 : List.lookup z (b :: m) = List.lookup z m := by
        obtain ⟨b1, b2⟩ := b
        have : (z == b1) = false := by simpa using w
        rw [List.lookup_cons, this]
      rw [e1] at e
      obtain ⟨p, hp, hk⟩ := ih e
      refine ⟨p, ?_, hk⟩
      rw [valV_neg (fun g => ?_), hp]
      rw [h1.1] at g
      exact w (Sum.inr.inj g).symm
/-- words[z], the dict of core words -/
theorem we_core {td ty : TE} (h : WE K td ds M fun o M1 => WE K ty ds M1 fun n M2 => ∃ z ns, o = .core ∧ n = .str z ∧ coreTab.lookup z = some ns ∧ Q (.tup (ns.map .int)) M2) : WE K (tDGet td ty) ds M Q := ⟨fun σ H hE hM R k =>
  h.run σ H hE hM _ fun o H2 od M2 e2 m2 a2 q2 => q2.run σ H2 (hE.mono e2) m2 _ fun n H3 nd M3 e3 m3 a3 q3 => by
    obtain ⟨z, ns, rfl, rfl, hl, q⟩ := q3
    cases a3
    have a2' := a2.mono e3
    cases a2' with
    | core h1 h2 =>
      obtain ⟨a, g1, g2⟩ := core_val (H := H3) h2 hl
      have intsR : ∀ l : List Int, DAts K H3 (l.map V.int) (l.map Dv.int) := fun l => by
        induction l with
        | nil => exact .nil
        | cons n l ih => exact .cons (.int n) ih
      exact ⟨_, .ref a, rfl, by rw [← g1]; exact DGet.k (k := .inr z) h1, k _ H3 _ M3 (e2.trans e3) m3 (.tup (g2 H3) (intsR ns)) q⟩⟩
end

/-! ### defs -/
section
variable {P : Program} {w : World} {K : PySem.W.Frag} {mg : Str → Option Value} {base : Heap}
abbrev FnP (K : PySem.W.Frag) (x : Str) (st : Stmt) (dvs : List V) (f : Addr) (fd : FuncData) : Prop := FunD K x x (defArgs st) (defBody st) (defScope st) dvs [] f fd
/-- a def of the module, under its name -/
structure DefAt (K : PySem.W.Frag) (mg : Str → Option Value) (x : Str) (st : Stmt) (dvs : List V) : Prop where
  ex : ∃ f fd, FnP K x st dvs f fd ∧ mg x = some (.ref f)
/-- a def that may be called by its name: the promise, its level, the defaults that fill up -/
structure Cal (P : Program) (w : World) (K : PySem.W.Frag) (mg : Str → Option Value) (base : Heap) (k : Nat) (x : Str) (S : SpD) (dvs : List V) : Prop where
  ex : ∃ (f : Addr) (fd : FuncData) (ps : List Str) (ds : List Value), FnOk P w K mg base CX0 k f fd ps (toSp K S) ∧ mg x = some (.ref f) ∧ PySem.W.keepIn K (.ref f) = true ∧ Binds K fd ps ds ∧ Vals dvs ds
theorem Cal.mono {j k : Nat} {x : Str} {S : SpD} {dvs : List V} (c : Cal P w K mg base j x S dvs) (h : j ≤ k) : Cal P w K mg base k x S dvs := by
  obtain ⟨f, fd, ps, ds, F, r⟩ := c.ex
  exact ⟨f, fd, ps, ds, F.mono h, r⟩
def startD (N : List Str) (ds : List Dv) : EnvD := ds.map some ++ List.replicate (N.length - ds.length) none
theorem env_start {H : Hp} {N : List Str} {vs : List V} {ds : List Dv} (h : DAts K H vs ds) : EnvAt K H (L2.start N vs) (startD N ds) := by
  unfold L2.start startD
  refine ⟨by simp [h.length], fun i d e => ?_⟩
  by_cases hi : i < ds.length
  · rw [List.getElem?_append_left (by simpa using hi), List.getElem?_map] at e
    rw [List.getElem?_append_left (by simpa [h.length] using hi), List.getElem?_map]
    cases q : ds[i]? with
    | none =>
      rw [q] at e
      cases e
    | some d' =>
      rw [q] at e
      cases e
      obtain ⟨v, h1, h2⟩ := h.get q
      exact ⟨v, by rw [h1]; rfl, h2⟩
  · rw [List.getElem?_append_right (by simpa using hi), List.getElem?_replicate] at e
    split at e <;> cases e
/-- a def's end -/
abbrev DEnds.fn (Q : Dv → Mm → Prop) : DEnds := { nx := fun _ M => Q .non M, rt := Q }
theorem fn_data {CX : CXT} {x : Str} {st : Stmt} {dvs : List V} {f : Addr} {fd : FuncData} {N ps : List Str} {k : Nat} {S : SpD} (F : FnP K x st dvs f fd) (sc : FnScope N ps (defScope st)) (len : ∀ xs M Q, S xs M Q → xs.length = ps.length)
    (body : ∀ (cdv : Value) (A : Around) (outer : List Env) (s : Shared) (H : Hp) (E : XK), Room k (A.deeper (envOfC x (defScope st) s.heap.objs.size f cdv)) →
      ∃ t, PSs (cxOf CX P w K mg base N x (defScope st) f cdv A outer s H E).nox (defBody st) t ∧ ∀ xs M Q, S xs M Q → WS K t (startD N xs) M (.fn Q)) : FnOk P w K mg base CX (k + 1) f fd ps (toSp K S) := by
  refine FunD.ok F sc (fun vs H Q E h => ?_) (fun cdv A outer s H vs R E hr h => ?_)
  · obtain ⟨xs, M, Q', h1, _, h2, _⟩ := h
    rw [h1.length]
    exact len _ _ _ h2
  · obtain ⟨t, ht, hb⟩ := body cdv A outer s H E hr
    refine ⟨t, ht.nox, ?_⟩
    obtain ⟨xs, M, Q', h1, h2, h3, h4⟩ := h
    exact (hb xs M Q' h3).run (L2.start N vs) H (env_start h1) h2 _ ⟨fun σ' H' ds' M' e _ m q => h4 _ H' _ M' e m .non q, fun v H' d M' e m a q => h4 v H' d M' e m a q, fun _ _ _ _ _ _ _ q => q.elim, fun _ _ _ _ _ _ _ q => q.elim⟩
/-- a def without defaults -/
theorem cal_mk {x : Str} {st : Stmt} {N ps : List Str} {k : Nat} {S : SpD} (D : DefAt K mg x st [])
    (b : ∀ (kV doc pm : Value) (an : Option Addr) (cdv ct : Value) (us : List Value), us.length = ps.length → bindArgs (PySem.W.fnOf x x (defArgs st) (defBody st) (defScope st) .none kV doc pm an cdv ct) ⟨us, []⟩ = pure (ps.zip us))
    (sc : FnScope N ps (defScope st)) (len : ∀ xs M Q, S xs M Q → xs.length = ps.length)
    (body : ∀ (f : Addr) (cdv : Value) (A : Around) (outer : List Env) (s : Shared) (H : Hp) (E : XK), Room k (A.deeper (envOfC x (defScope st) s.heap.objs.size f cdv)) →
      ∃ t, PSs (cxOf CX0 P w K mg base N x (defScope st) f cdv A outer s H E).nox (defBody st) t ∧ ∀ xs M Q, S xs M Q → WS K t (startD N xs) M (.fn Q)) : Cal P w K mg base (k + 1) x S [] := by
  obtain ⟨f, fd, F, hm⟩ := D.ex
  exact ⟨f, fd, ps, [], fn_data F sc len (body f), hm, F.kp, F.bindsN b, .nil⟩
section
variable {X : Cx} {k j : Nat} {x : Str} {S : SpD} {dvs : List V} {p pos : Pos} {e : Expr} {es : List Expr} {t : TA}
/-- the module's parts of a context -/
structure SameMod (X : Cx) (P : Program) (w : World) (K : PySem.W.Frag) (mg : Str → Option Value) (base : Heap) : Prop where
  p : X.prog = P
  w : X.w = w
  k : X.K = K
  m : X.mg = mg
  b : X.base = base
theorem pe_cal (c : Cal P w K mg base k x S dvs) (hr : Room j X.A) (hk : k ≤ j) (hX : SameMod X P w K mg base) (hg : Gl X x) (ha : PA X (e :: es) t)
    (hdb : (x == ("__debug__" : Str)) = false := by decide) (he : starEach (e :: es) X.env = (false, eval e X.env) :: starEach es X.env := by rfl) (hpl : (backTo pos (starEach es X.env)).any (·.1) = false := by rfl) :
    PE X (.Call (.Name x p) (e :: es) [] pos) (tCall (toSp K S) dvs E0 t) := by
  obtain ⟨rfl, rfl, rfl, rfl, rfl⟩ := hX
  obtain ⟨f, fd, ps, ds, F, hm, kp, b, d⟩ := c.ex
  exact pe_call F (hr.mono hk) hg hm kp b d pass0 ha hdb he hpl
/-- a constant of the module -/
theorem pe_k {v : V} (hg : Gl X x) (h : ∃ u, mg x = some u ∧ RelV v u) (hm : X.mg = mg) (hd : (x == ("__debug__" : Str)) = false := by decide) : PE X (.Name x pos) (tC v) := by
  subst hm
  obtain ⟨u, hm, r⟩ := h
  exact pe_glob hg hm r hd
end
/-! ### the rules that name the written part, with its name given -/
section
variable {X : Cx} {tg e e2 o : Expr} {es : List Expr} {te ta tl : TE} {t : TA} {tgs : TGs} {p pos apos cpos tpos : Pos} {name : Str} {T id : String} {r : V → List V → Hp → VK → Prop}
theorem ix_tupK (h : X.K = K) : IxR X (rIxT K) := by subst h; exact ix_tup
theorem ix_listK (h : X.K = K) : IxR X (rIxL K) := by subst h; exact ix_list
theorem ix_kdictK (h : X.K = K) (h2 : X.w = w) : IxR X (rIxD K w) := by subst h; subst h2; exact ix_kdict
theorem sl_tupK (h : X.K = K) : SlR X (rSlA K) := by subst h; exact sl_tupA
theorem sl_listK (h : X.K = K) : SlR X (rSlL K) := by subst h; exact sl_list
theorem op_inK (h : X.K = K) : OpR X (compareOp .In) (rIn K false) := by subst h; exact op_in_seq
theorem op_niK (h : X.K = K) : OpR X (compareOp .NotIn) (rIn K true) := by subst h; exact op_notIn_seq
theorem op_catK (h : X.K = K) : OpR X (binaryOp .Add) (rCatA K) := by subst h; exact op_catA
theorem call_lenK (h : X.K = K) : CallR X (.builtin "len") (rLenS K) := by subst h; exact call_len_seq
theorem cr_sumK (h : X.K = K) (hc : X.calm = true) : CallR X (.builtin "sum") (rSum K) := by subst h; exact cr_sum hc
theorem cr_sumTK (h : X.K = K) (hc : X.calm = true) : CallR X (.builtin "sum") (rSumT K) := by subst h; exact cr_sumT hc
theorem cr_maxK (h : X.K = K) (hc : X.calm = true) : CallR X (.builtin "max") (rMax K) := by subst h; exact cr_max hc
theorem cr_allK (h : X.K = K) (hc : X.calm = true) : CallR X (.builtin "all") (rAll K) := by subst h; exact cr_all hc
theorem cr_anyK (h : X.K = K) (hc : X.calm = true) : CallR X (.builtin "any") (rAny K) := by subst h; exact cr_any hc
theorem call_isiK' (h : X.K = K) : CallR X (.builtin "isinstance") (rIsi K) := by subst h; exact call_isi
theorem call_listK (h : X.K = K) : CallR X (.type "list") (rListS K) := by subst h; exact call_list_of
theorem pe_tupleK (h : X.K = K) (hg : Gl X "tuple") (hm : X.mg "tuple" = none) (ha : PE X e ta) (na : starEach [e] X.env = (false, eval e X.env) :: starEach [] X.env := by rfl) :
    PE X (.Call (.Name "tuple" p) [e] [] pos) (tThen ta (kTup K)) := by subst h; exact pe_tupleOf hg hm ha na
theorem pt_truthK (h : X.K = K) (ha : PE X e ta) (he : ∀ whole, isTrue e X.env whole = (do let v ← whole; standAt e.pos; holding [v] (truthy v))) : PT X e (fun σ H Q => ta σ H fun x H' => ∃ k, TruV K x H' k ∧ Q k H') := by subst h; exact pt_truth ha he
theorem pg_tupK {n k : Nat} (h : X.K = K) (hc : X.calm = true) (hs : PGs X es tgs) (hn : (assignEach es X.env).length = n := by rfl) (hst : (assignEach es X.env).findIdx? (·.1) = none := by rfl) : PG X (.Tuple es k pos) (gTup K n tgs) := by subst h; exact pg_tup hc hs hn hst
theorem pi_listK (h : X.K = K) (hl : PE X e tl) : PI X tg e (iList K tl) := by subst h; exact pi_list hl
theorem pi_tupK (h : X.K = K) (hl : PE X e tl) : PI X tg e (iTup K tl) := by subst h; exact pi_tup hl
theorem pi_zipK {elts : List Expr} {kk : Nat} (h : X.K = K) (hg : Gl X "zip") (hm : X.mg "zip" = none) (ha : PA X [e, e2] t) (hs : starEach [e, e2] X.env = (false, eval e X.env) :: starEach [e2] X.env := by rfl) (hpl : (backTo pos (starEach [e2] X.env)).any (·.1) = false := by rfl) :
    PI X (.Tuple elts kk tpos) (.Call (.Name "zip" p) [e, e2] [] pos) (RZ.iZipA K t) := by subst h; exact RZ.pi_zipA hg hm ha hs hpl
theorem pe_bmK (h : X.K = K) (pa : PlainAttrs T) (slot : Slot T name id) (hty : typeOf (.builtin id) = pure (.type "method_descriptor")) (hm : MtR X id r) (ho : PE X o ta) (ha : PA X (e :: es) t)
    (hbase : attributeBase o name X.env (eval o X.env) = eval o X.env := by rfl)
    (hfew : ((backTo cpos (starEach (e :: es) X.env)).all (fun x => !x.1) && (backToKw cpos (keywordEach [] X.env)).all (fun x => x.1.isSome)
      && decide ((e :: es).length + ([] : List Keyword).length + (if ([] : List Keyword).isEmpty then 0 else 1) < 30)) = true := by rfl)
    (hline : (apos.endLine == cpos.line) = true := by rfl) (hs : starEach (e :: es) X.env = (false, eval e X.env) :: starEach es X.env := by rfl) (hplain : (backTo cpos (starEach es X.env)).any (·.1) = false := by rfl) :
    PE X (.Call (.Attribute o name apos) (e :: es) [] cpos) (tBM K T r ta t) := by subst h; exact pe_bm pa slot hty hm ho ha hbase hfew hline hs hplain
theorem mt_indexK (h : X.K = K) : MtR X "list.index" (rIndex K) := by subst h; exact mt_index
theorem pa_starK {sp : Pos} (h : X.K = K) (he : PE X e te) (hr : PA X es t) (hs : starEach (.Starred e sp :: es) X.env = (true, eval e X.env) :: starEach es X.env := by rfl) : PA X (.Starred e sp :: es) (StX.tStar K te t) := by subst h; exact StX.pa_star he hr hs
theorem pe_blt {x : Str} {v : V} {u : Value} (hg : Gl X x) (hm : X.mg x = none) (hv : bootBuiltins x = some u) (r : RelV v u) (hn : x ≠ "__name__" := by decide) (hd : (x == ("__debug__" : Str)) = false := by decide) : PE X (.Name x pos) (tC v) := pe_bltn hg hm hv r hn hd
end
end
end FS
set_option maxHeartbeats 4000000
/-! Terms, as plain data. -/
namespace FS
open PySem PySem.Spec PyProof.Rows L2
inductive W1 where | fn | again | first | second | box | look | say
  deriving DecidableEq
inductive W2 where | call | pair | plus | minus | times | put
  deriving DecidableEq
def W1.s : W1 → Str
  | .fn => "fn" | .again => "again" | .first => "first" | .second => "second" | .box => "box" | .look => "look" | .say => "say"
def W2.s : W2 → Str
  | .call => "call" | .pair => "pair" | .plus => "plus" | .minus => "minus" | .times => "times" | .put => "put"
def W1.b : W1 → Nat
  | .fn => 1 | .again => 2 | _ => 0
inductive Tm where
  | num (n : Int) | name (k : Nat) | at (k : Nat) | u1 (w : W1) (a : Tm) | u2 (w : W2) (a b : Tm) | u3 (a b c : Tm)
namespace Tm
def enc : Tm → Dv
  | num n => .tup [.str "number", .int n]
  | name k => .tup [.str "name", .int k]
  | .at k => .tup [.str "at", .int k]
  | u1 w a => .tup [.str w.s, a.enc]
  | u2 w a b => .tup [.str w.s, a.enc, b.enc]
  | u3 a b c => .tup [.str "test", a.enc, b.enc, c.enc]
def word : Tm → Str
  | num _ => "number" | name _ => "name" | .at _ => "at" | u1 w _ => w.s | u2 w _ _ => w.s | u3 _ _ _ => "test"
def parts : Tm → List Tm
  | u1 _ a => [a] | u2 _ a b => [a, b] | u3 a b c => [a, b, c] | _ => []
def binds : Tm → List Nat
  | u1 w _ => [w.b] | u2 _ _ _ => [0, 0] | u3 _ _ _ => [0, 0, 0] | _ => []
def isUse : Tm → Bool
  | u1 _ _ => true | u2 _ _ _ => true | u3 _ _ _ => true | _ => false
def len : Tm → Nat
  | u1 w a => 1 + w.b + a.len | u2 _ a b => 1 + a.len + b.len | u3 a b c => 1 + a.len + b.len + c.len | _ => 1
def dep : Tm → Nat
  | u1 _ a => 1 + a.dep | u2 _ a b => 1 + max a.dep b.dep | u3 a b c => 1 + max a.dep (max b.dep c.dep) | _ => 1
theorem enc_use {t : Tm} (h : t.isUse = true) : t.enc = .tup (.str t.word :: t.parts.map enc) := by
  cases t <;> first | rfl | cases h
theorem len_use {t : Tm} (h : t.isUse = true) : t.len = 1 + t.binds.sum + (t.parts.map len).sum := by
  cases t <;> first | (simp only [len, parts, binds, List.map, List.sum_cons, List.sum_nil]; omega) | cases h
theorem dep_pos (t : Tm) : 1 ≤ t.dep := by cases t <;> simp [dep] <;> omega
theorem dep_part {t p : Tm} (h : p ∈ t.parts) : p.dep + 1 ≤ t.dep := by
  cases t <;> simp [parts] at h
  · subst h; simp [dep]; omega
  · rcases h with rfl | rfl <;> simp [dep] <;> omega
  · rcases h with rfl | rfl | rfl <;> simp [dep] <;> omega
theorem binds_len (t : Tm) : t.binds.length = t.parts.length := by cases t <;> rfl
theorem core_names {t : Tm} (h : t.isUse = true) : coreTab.lookup t.word = some (t.binds.map fun n => ((n : Nat) : Int)) := by
  have e1 : ∀ w : W1, coreTab.lookup w.s = some [((w.b : Nat) : Int)] := fun w => by cases w <;> decide +kernel
  have e2 : ∀ w : W2, coreTab.lookup w.s = some [0, 0] := fun w => by cases w <;> decide +kernel
  cases t with
  | u1 w a => exact e1 w
  | u2 w a b => exact e2 w
  | u3 a b c => exact (by decide +kernel : coreTab.lookup ("test" : Str) = some [0, 0, 0])
  | _ => cases h
end Tm
def leaves : List Dv := [.str "number", .str "name", .str "at", .str "hole"]
theorem use_leaves {t : Tm} (h : t.isUse = true) : inD (.str t.word) leaves = false := by
  have e1 : ∀ w : W1, inD (.str w.s) leaves = false := fun w => by cases w <;> decide +kernel
  have e2 : ∀ w : W2, inD (.str w.s) leaves = false := fun w => by cases w <;> decide +kernel
  cases t with
  | u1 w a => exact e1 w
  | u2 w a b => exact e2 w
  | u3 a b c => exact (by decide +kernel : inD (.str "test") leaves = false)
  | _ => cases h
theorem leaf_leaves {t : Tm} (h : t.isUse = false) : inD (.str t.word) leaves = true := by
  cases t with
  | num n => exact (by decide +kernel : inD (.str "number") leaves = true)
  | name n => exact (by decide +kernel : inD (.str "name") leaves = true)
  | «at» n => exact (by decide +kernel : inD (.str "at") leaves = true)
  | _ => cases h
theorem sum_cast (l : List Nat) : (l.map fun n => ((n : Nat) : Int)).sum = ((l.sum : Nat) : Int) := by
  induction l with
  | nil => rfl
  | cons a l ih => simp [ih]
/-- the head of a term -/
theorem enc_head (t : Tm) : ∃ r, t.enc = .tup (.str t.word :: r) := by cases t <;> exact ⟨_, rfl⟩
theorem cut1 (x : Dv) (r : List Dv) : cutD (x :: r) (some 1) none = r := by
  unfold cutD
  have e : HT.sIx (x :: r).length 0 (some 1) = 1 := by
    have := HT.sIx_nat (x :: r).length 0 1
    simp at this
    exact this
  rw [e, HT.sIx_none]
  simp
end FS
namespace FS
open PySem PySem.Spec PyProof.Rows L2
section
variable {K : PySem.W.Frag} {ds : EnvD} {M : Mm} {Q : Dv → Mm → Prop} {te : TE} {x y z : Dv} {i j : Nat}
theorem br_t {b : Bool} {A B : Prop} (h : b = true) (a : A) : (b = true → A) ∧ (b = false → B) := ⟨fun _ => a, fun z => by rw [h] at z; cases z⟩
theorem br_f {b : Bool} {A B : Prop} (h : b = false) (a : B) : (b = true → A) ∧ (b = false → B) := ⟨fun z => (by rw [h] at z; cases z), fun _ => a⟩
theorem br {b : Bool} {A B : Prop} (h1 : b = true → A) (h2 : b = false → B) : (b = true → A) ∧ (b = false → B) := ⟨h1, h2⟩
theorem atI_0 {α : Type} {x : α} {r : List α} : atI (x :: r) 0 = some x := atI_nat (j := 0) rfl
theorem atI_1 {α : Type} {x y : α} {r : List α} : atI (x :: y :: r) 1 = some y := atI_nat (j := 1) rfl
theorem atI_2 {α : Type} {x y z : α} {r : List α} : atI (x :: y :: z :: r) 2 = some z := atI_nat (j := 2) rfl
theorem rv_ix0 {r : List Dv} (q : Q x M) : RV K (rIxT K) (.tup (x :: r)) (.int 0) M Q := rv_ixT atI_0 q
theorem rv_ix1 {r : List Dv} (q : Q y M) : RV K (rIxT K) (.tup (x :: y :: r)) (.int 1) M Q := rv_ixT atI_1 q
theorem rv_ix2 {r : List Dv} (q : Q z M) : RV K (rIxT K) (.tup (x :: y :: z :: r)) (.int 2) M Q := rv_ixT atI_2 q
/-- t[0] of a term -/
theorem we_word {t : Tm} (hx : ds[i]? = some (some t.enc)) (q : Q (.str t.word) M) : WE K (tOp (rIxT K) (tVar i) (tC (.int 0))) ds M Q := by
  obtain ⟨r, e⟩ := enc_head t
  rw [e] at hx
  exact we_op (we_var hx (we_int (rv_ix0 q)))
theorem wi_parts {t : Tm} {z : Dv} {Q : It → (Hp → Mm → Prop) → Mm → Prop} (hx : ds[i]? = some (some (.tup (z :: t.parts.map Tm.enc)))) (h : ∀ a, Q (Itt K a) (fun H _ => ∃ vs, SqT K H a vs ∧ DAts K H vs (t.parts.map Tm.enc)) M) :
    WI K (iTup K (tSl (rSlA K) (tVar i) (tPart (tC (.int 1))) tNoPart)) ds M Q := by
  refine wi_tup (we_slT (we_var hx ⟨_, rfl, wo_some (we_int ⟨1, rfl, wo_none ?_⟩)⟩))
  rw [cut1]
  exact ⟨_, rfl, h⟩
theorem parts_small (t : Tm) : t.parts.length ≤ 1000000 := by cases t <;> (simp [Tm.parts])
/-- [.. for part in t[1:]] -/
theorem we_lcParts {t : Tm} {z : Dv} {vs : List Nat} (out : Tm → Dv) (hv : vs = [j]) (hx : ds[i]? = some (some (.tup (z :: t.parts.map Tm.enc)))) (hs : ∀ p ∈ t.parts, ∀ M2, MEx M M2 → WE K te ((wipeD ds [j]).set j (some p.enc)) M2 fun y M4 => MEx M2 M4 ∧ y = out p)
    (hd : ∀ q M2, MEx M M2 → M2 q = some (.lst (t.parts.map out)) → Q (.adr q) M2) : WE K (tLc (iTup K (tSl (rSlA K) (tVar i) (tPart (tC (.int 1))) tNoPart)) (gName j) tYes te vs) ds M Q := by
  subst hv
  refine we_lc (wi_parts hx fun a => ⟨t.parts, Tm.enc, fun _ => true, out, yl_tup, keeps_tup, parts_small t, fun p hp M2 hM => ⟨_, wgc_name, wt_yes ⟨.refl, rfl, fun _ => hs p hp M2 hM⟩⟩, fun q M2 _ hM hq => ?_⟩)
  rw [filter_all] at hq
  exact hd q M2 hM hq
/-- sum([.. for ..]) of lengths -/
theorem rl_sumN {p : Addr} {α : Type} {l : List α} {f : α → Nat} (hp : M p = some (.lst (l.map fun a => .int (f a : Int)))) (q : Q (.int ((l.map f).sum : Nat)) M) : RL K (rSum K) [.adr p] M Q := by
  refine rl_sum (ns := l.map fun a => ((f a : Nat) : Int)) (by rw [hp, List.map_map]; rfl) ?_
  have e : (l.map fun a => ((f a : Nat) : Int)) = (l.map f).map fun n => ((n : Nat) : Int) := by rw [List.map_map]; rfl
  rw [e, sum_cast]
  exact q
theorem rl_sumTN {l : List Nat} (q : Q (.int (l.sum : Nat)) M) : RL K (rSumT K) [.tup ((l.map fun n => ((n : Nat) : Int)).map .int)] M Q := by
  refine rl_sumT ?_
  rw [sum_cast]
  exact q
end
end FS
set_option maxHeartbeats 4000000
/-! The text by places; what the top has written. -/
namespace FS
open PySem PySem.Spec PyProof.Rows L2
def topS (i : Nat) : Stmt := PySem.Challenge.pw_formstead_k24_whole_n_steps_and_m_steps.main.body.getD i (.Pass ⟨0, 0, 0, 0⟩)
abbrev s_words_of : Stmt := topS 6
abbrev s_length_by : Stmt := topS 8
abbrev s_depth_by : Stmt := topS 9
abbrev s_parts_with_names : Stmt := topS 10
abbrev s_names_met : Stmt := topS 11
abbrev s_free_by : Stmt := topS 12
abbrev s_ats_met : Stmt := topS 13
abbrev s_ats_by : Stmt := topS 14
abbrev s_led_name : Stmt := topS 15
abbrev s_led_by : Stmt := topS 16
abbrev s_put_in_by : Stmt := topS 17
abbrev s_put_length : Stmt := topS 18
abbrev s_put_depth : Stmt := topS 19
abbrev s_part_by : Stmt := topS 20
abbrev s_replaced_by : Stmt := topS 21
abbrev s_ats_led_by : Stmt := topS 22
abbrev s_is_value_by : Stmt := topS 23
abbrev s_is_whole : Stmt := topS 25
abbrev s_is_count : Stmt := topS 26
abbrev s_is_number : Stmt := topS 28
abbrev s_is_leaf : Stmt := topS 29
abbrev s_is_patterned : Stmt := topS 30
abbrev s_is_closed_term : Stmt := topS 31
abbrev s_is_sourced : Stmt := topS 32
abbrev s_is_programmed : Stmt := topS 33
abbrev s_are_fitting : Stmt := topS 34
abbrev s_check_program : Stmt := topS 41
abbrev s_check_number : Stmt := topS 42
abbrev s_met_by : Stmt := topS 45
abbrev s_tidied_by : Stmt := topS 46
abbrev s_place_by : Stmt := topS 47
abbrev s_summed : Stmt := topS 48
abbrev s_fault_of : Stmt := topS 49
abbrev s_called : Stmt := topS 50
abbrev s_made : Stmt := topS 51
abbrev s_outcome_by : Stmt := topS 52
abbrev s_next_by : Stmt := topS 53
abbrev s_next_tidied : Stmt := topS 54
abbrev s_go_on : Stmt := topS 56
abbrev s__law_well : Stmt := topS 58
abbrev s__law_draw : Stmt := topS 59
abbrev s__law_pick : Stmt := topS 60
abbrev s__law_same : Stmt := topS 61
abbrev s__law_names : Stmt := topS 62
abbrev s__law_length : Stmt := topS 63
abbrev s__law_depth : Stmt := topS 64
abbrev s__law_is_great : Stmt := topS 65
abbrev s__law_way : Stmt := topS 66
abbrev s__law_led : Stmt := topS 67
abbrev s__law_put_in : Stmt := topS 68
abbrev s__law_part_at : Stmt := topS 69
abbrev s__law_replaced : Stmt := topS 70
abbrev s__law_ats : Stmt := topS 71
abbrev s__law_met : Stmt := topS 72
abbrev s__law_renumbered : Stmt := topS 73
abbrev s__law_tidied : Stmt := topS 74
abbrev s__law_is_value : Stmt := topS 75
abbrev s__law_place : Stmt := topS 76
abbrev s__law_reckoned : Stmt := topS 77
abbrev s__law_here : Stmt := topS 78
abbrev s__law_next : Stmt := topS 79
abbrev s__law_number : Stmt := topS 80
abbrev s__law_leaf : Stmt := topS 81
abbrev s__law_again : Stmt := topS 82
abbrev s__law_part : Stmt := topS 83
abbrev s__law_sum : Stmt := topS 84
abbrev s__law_turn : Stmt := topS 85
abbrev s__law_loop : Stmt := topS 86
abbrev s__law_value : Stmt := topS 87
abbrev s__law_program : Stmt := topS 88
abbrev s__law_jumbled : Stmt := topS 89
abbrev s__law_tried : Stmt := topS 90
abbrev s__law_gone : Stmt := topS 91
abbrev s_law : Stmt := topS 92
/-- what stands behind the top: the defs, the built-ins, the constants -/
structure Glb (K : PySem.W.Frag) (mg : Str → Option Value) : Prop where
  d_words_of : DefAt K mg "words_of" s_words_of []
  d_length_by : DefAt K mg "length_by" s_length_by []
  d_depth_by : DefAt K mg "depth_by" s_depth_by []
  d_parts_with_names : DefAt K mg "parts_with_names" s_parts_with_names []
  d_names_met : DefAt K mg "names_met" s_names_met []
  d_free_by : DefAt K mg "free_by" s_free_by []
  d_ats_met : DefAt K mg "ats_met" s_ats_met []
  d_ats_by : DefAt K mg "ats_by" s_ats_by []
  d_led_name : DefAt K mg "led_name" s_led_name []
  d_led_by : DefAt K mg "led_by" s_led_by [.int 0]
  d_put_in_by : DefAt K mg "put_in_by" s_put_in_by [.int 0]
  d_put_length : DefAt K mg "put_length" s_put_length [.int 0]
  d_put_depth : DefAt K mg "put_depth" s_put_depth [.int 0]
  d_part_by : DefAt K mg "part_by" s_part_by []
  d_replaced_by : DefAt K mg "replaced_by" s_replaced_by []
  d_ats_led_by : DefAt K mg "ats_led_by" s_ats_led_by []
  d_is_value_by : DefAt K mg "is_value_by" s_is_value_by []
  d_is_whole : DefAt K mg "is_whole" s_is_whole []
  d_is_count : DefAt K mg "is_count" s_is_count []
  d_is_number : DefAt K mg "is_number" s_is_number []
  d_is_leaf : DefAt K mg "is_leaf" s_is_leaf []
  d_is_patterned : DefAt K mg "is_patterned" s_is_patterned []
  d_is_closed_term : DefAt K mg "is_closed_term" s_is_closed_term []
  d_is_sourced : DefAt K mg "is_sourced" s_is_sourced []
  d_is_programmed : DefAt K mg "is_programmed" s_is_programmed []
  d_are_fitting : DefAt K mg "are_fitting" s_are_fitting []
  d_check_program : DefAt K mg "check_program" s_check_program []
  d_check_number : DefAt K mg "check_number" s_check_number []
  d_met_by : DefAt K mg "met_by" s_met_by []
  d_tidied_by : DefAt K mg "tidied_by" s_tidied_by []
  d_place_by : DefAt K mg "place_by" s_place_by []
  d_summed : DefAt K mg "summed" s_summed []
  d_fault_of : DefAt K mg "fault_of" s_fault_of []
  d_called : DefAt K mg "called" s_called []
  d_made : DefAt K mg "made" s_made []
  d_outcome_by : DefAt K mg "outcome_by" s_outcome_by []
  d_next_by : DefAt K mg "next_by" s_next_by []
  d_next_tidied : DefAt K mg "next_tidied" s_next_tidied []
  d_go_on : DefAt K mg "go_on" s_go_on []
  d__law_well : DefAt K mg "_law_well" s__law_well []
  d__law_draw : DefAt K mg "_law_draw" s__law_draw []
  d__law_pick : DefAt K mg "_law_pick" s__law_pick []
  d__law_same : DefAt K mg "_law_same" s__law_same []
  d__law_names : DefAt K mg "_law_names" s__law_names []
  d__law_length : DefAt K mg "_law_length" s__law_length []
  d__law_depth : DefAt K mg "_law_depth" s__law_depth []
  d__law_is_great : DefAt K mg "_law_is_great" s__law_is_great []
  d__law_way : DefAt K mg "_law_way" s__law_way []
  d__law_led : DefAt K mg "_law_led" s__law_led []
  d__law_put_in : DefAt K mg "_law_put_in" s__law_put_in []
  d__law_part_at : DefAt K mg "_law_part_at" s__law_part_at []
  d__law_replaced : DefAt K mg "_law_replaced" s__law_replaced []
  d__law_ats : DefAt K mg "_law_ats" s__law_ats []
  d__law_met : DefAt K mg "_law_met" s__law_met []
  d__law_renumbered : DefAt K mg "_law_renumbered" s__law_renumbered []
  d__law_tidied : DefAt K mg "_law_tidied" s__law_tidied []
  d__law_is_value : DefAt K mg "_law_is_value" s__law_is_value []
  d__law_place : DefAt K mg "_law_place" s__law_place []
  d__law_reckoned : DefAt K mg "_law_reckoned" s__law_reckoned []
  d__law_here : DefAt K mg "_law_here" s__law_here []
  d__law_next : DefAt K mg "_law_next" s__law_next []
  d__law_number : DefAt K mg "_law_number" s__law_number []
  d__law_leaf : DefAt K mg "_law_leaf" s__law_leaf []
  d__law_again : DefAt K mg "_law_again" s__law_again []
  d__law_part : DefAt K mg "_law_part" s__law_part []
  d__law_sum : DefAt K mg "_law_sum" s__law_sum []
  d__law_turn : DefAt K mg "_law_turn" s__law_turn []
  d__law_loop : DefAt K mg "_law_loop" s__law_loop []
  d__law_value : DefAt K mg "_law_value" s__law_value []
  d__law_program : DefAt K mg "_law_program" s__law_program []
  d__law_jumbled : DefAt K mg "_law_jumbled" s__law_jumbled []
  d__law_tried : DefAt K mg "_law_tried" s__law_tried []
  d__law_gone : DefAt K mg "_law_gone" s__law_gone []
  d_law : DefAt K mg "law" s_law []
  b_len : mg "len" = none
  b_sum : mg "sum" = none
  b_max : mg "max" = none
  b_all : mg "all" = none
  b_any : mg "any" = none
  b_abs : mg "abs" = none
  b_divmod : mg "divmod" = none
  b_isinstance : mg "isinstance" = none
  b_int : mg "int" = none
  b_tuple : mg "tuple" = none
  b_list : mg "list" = none
  b_range : mg "range" = none
  b_zip : mg "zip" = none
  b_enumerate : mg "enumerate" = none
  b_dict : mg "dict" = none
  b_sorted : mg "sorted" = none
  b_bool : mg "bool" = none
  b_str : mg "str" = none
  k_MOST_NUMBER : ∃ u, mg "MOST_NUMBER" = some u ∧ RelV (.int 999999999) u
  k_MOST_LENGTH : ∃ u, mg "MOST_LENGTH" = some u ∧ RelV (.int 1500) u
  k_MOST_DEPTH : ∃ u, mg "MOST_DEPTH" = some u ∧ RelV (.int 60) u
  k_LEAVES : ∃ a, mg "LEAVES" = some (.ref a) ∧ ∀ H, DAt K H (.ref a) (.tup leaves)
end FS
set_option maxHeartbeats 4000000
namespace FS
open PySem PySem.Spec PyProof.Rows L2
local macro_rules | `(tactic| walk_at "t") => `(tactic| exact use_hole (by assumption))
local macro_rules | `(tactic| walk_at "t") => `(tactic| exact use_at (by assumption))
local macro_rules | `(tactic| walk_at "t") => `(tactic| exact use_name (by assumption))
local macro_rules | `(tactic| walk_at "t") => `(tactic| exact use_num (by assumption))
local macro_rules | `(tactic| walk_at "t") => `(tactic| exact leaf_leaves (by assumption))
local macro_rules | `(tactic| walk_at "t") => `(tactic| exact use_leaves (by assumption))
local macro_rules | `(tactic| walk_at "t") => `(tactic| assumption)
local macro_rules | `(tactic| walk_at "t") => `(tactic| decide +kernel)
local macro_rules | `(tactic| walk_at "t") => `(tactic| rfl)
local macro_rules | `(tactic| walk_at "d1") => `(tactic| (with_reducible refine ⟨_, _, _, rfl, ?_⟩))
local macro_rules | `(tactic| walk_at "d1") => `(tactic| (with_reducible refine ⟨_, _, rfl, ?_⟩))
local macro_rules | `(tactic| walk_at "d1") => `(tactic| ((with_reducible refine rv_fdiv ?h1 ?_); (case h1 => exact ⟨by decide, by decide⟩)))
local macro_rules | `(tactic| walk_at "d1") => `(tactic| ((with_reducible refine rv_mod ?h1 ?_); (case h1 => (show (0 : Int) < _; decide))))
local macro_rules | `(tactic| walk_at "d1") => `(tactic| (with_reducible refine we_call (dxs := [.int 0]) (fun H => .cons (.int 0) .nil) ?_))
local macro_rules | `(tactic| walk_at "d1") => `(tactic| ((with_reducible refine' we_c ?h1 ?_); (case h1 => assumption)))
local macro_rules | `(tactic| walk_at "d1") => `(tactic| (with_reducible refine wt_yes ?_))
local macro_rules | `(tactic| walk_at "d1") => `(tactic| (with_reducible refine wg_name ?_))
local macro_rules | `(tactic| walk_at "d1") => `(tactic| (with_reducible refine rv_ix3 ?_))
local macro_rules | `(tactic| walk_at "d1") => `(tactic| (with_reducible refine rv_ix2 ?_))
local macro_rules | `(tactic| walk_at "d1") => `(tactic| (with_reducible refine rv_notN ?_))
local macro_rules | `(tactic| walk_at "d1") => `(tactic| (with_reducible refine rv_isN ?_))
local macro_rules | `(tactic| walk_at "d1") => `(tactic| (with_reducible refine rv_neS ?_))
local macro_rules | `(tactic| walk_at "d1") => `(tactic| (with_reducible refine rv_ge ?_))
local macro_rules | `(tactic| walk_at "d1") => `(tactic| (with_reducible refine rv_gt ?_))
local macro_rules | `(tactic| walk_at "d1") => `(tactic| (with_reducible refine rv_le ?_))
local macro_rules | `(tactic| walk_at "d1") => `(tactic| (with_reducible refine rv_sub ?_))
local macro_rules | `(tactic| walk_at "d1") => `(tactic| (with_reducible refine wo_some ?_))
local macro_rules | `(tactic| walk_at "d1") => `(tactic| (with_reducible refine wo_none ?_))
local macro_rules | `(tactic| walk_at "d1") => `(tactic| (with_reducible refine we_then ?_))
local macro_rules | `(tactic| walk_at "d1") => `(tactic| (with_reducible refine we_un ?_))
local macro_rules | `(tactic| walk_at "d1") => `(tactic| (with_reducible refine we_chain ?_))
local macro_rules | `(tactic| walk_at "d1") => `(tactic| (with_reducible refine we_if ?_))
local macro_rules | `(tactic| walk_at "d1") => `(tactic| (with_reducible refine we_not ?_))
local macro_rules | `(tactic| walk_at "d1") => `(tactic| (with_reducible refine we_or ?_))
local macro_rules | `(tactic| walk_at "d1") => `(tactic| (with_reducible refine we_and ?_))
local macro_rules | `(tactic| walk_at "d1") => `(tactic| (with_reducible refine wt_not ?_))
local macro_rules | `(tactic| walk_at "d1") => `(tactic| (with_reducible refine wt_B ?_))
local macro_rules | `(tactic| walk_at "d1") => `(tactic| (with_reducible refine we_slT ?_))
local macro_rules | `(tactic| walk_at "d1") => `(tactic| (with_reducible refine we_lst ?_))
local macro_rules | `(tactic| walk_at "d1") => `(tactic| (with_reducible refine we_ty ?_))
local macro_rules | `(tactic| walk_at "d1") => `(tactic| (with_reducible refine we_non ?_))
local macro_rules | `(tactic| walk_at "d1") => `(tactic| (with_reducible refine we_bl ?_))
local macro_rules | `(tactic| walk_at "d1") => `(tactic| (with_reducible refine ws_asg ?_))
local macro_rules | `(tactic| walk_at "d1") => `(tactic| (with_reducible refine ws_par3 ?_))
local macro_rules | `(tactic| walk_at "d1") => `(tactic| (with_reducible refine ws_par ?_))
local macro_rules | `(tactic| walk_at "d1") => `(tactic| (with_reducible refine ws_drop ?_))
local macro_rules | `(tactic| walk_at "d1") => `(tactic| (with_reducible refine ru_neg ?_))
local macro_rules | `(tactic| walk_at "d1") => `(tactic| (with_reducible refine rl_isi_bb ?_))
local macro_rules | `(tactic| walk_at "d1") => `(tactic| (with_reducible refine rl_isi_bt ?_))
local macro_rules | `(tactic| walk_at "d1") => `(tactic| (with_reducible refine rl_isi_sb ?_))
local macro_rules | `(tactic| walk_at "d1") => `(tactic| (with_reducible refine rl_isi_st ?_))
local macro_rules | `(tactic| walk_at "d1") => `(tactic| (with_reducible refine rl_isi_is ?_))
local macro_rules | `(tactic| walk_at "d1") => `(tactic| (with_reducible refine rl_isi_it ?_))
local macro_rules | `(tactic| walk_at "d1") => `(tactic| (with_reducible refine rl_isi_ib ?_))
local macro_rules | `(tactic| walk_at "d1") => `(tactic| (with_reducible refine rl_isi_ii ?_))
local macro_rules | `(tactic| walk_at "d1") => `(tactic| (with_reducible refine rl_isi_ss ?_))
local macro_rules | `(tactic| walk_at "d1") => `(tactic| (with_reducible refine rl_isi_tt ?_))
local macro_rules | `(tactic| walk_at "d1") => `(tactic| (with_reducible refine rl_abs ?_))
local macro_rules | `(tactic| walk_at "d1") => `(tactic| (with_reducible refine rl_int ?_))
local macro_rules | `(tactic| walk_at "d1") => `(tactic| (with_reducible refine wt_or ?_))
local macro_rules | `(tactic| walk_at "d1") => `(tactic| (with_reducible refine rv_lt ?_))
local macro_rules | `(tactic| walk_at "d1") => `(tactic| (with_reducible refine rv_add ?_))
local macro_rules | `(tactic| walk_at "d1") => `(tactic| (with_reducible refine we_cb ?_))
local macro_rules | `(tactic| walk_at "d1") => `(tactic| (with_reducible refine ws_set ?_))
local macro_rules | `(tactic| walk_at "d1") => `(tactic| (with_reducible refine rv_ix1 ?_))
local macro_rules | `(tactic| walk_at "d1") => `(tactic| (with_reducible refine wt_and ?_))
local macro_rules | `(tactic| walk_at "d1") => `(tactic| (with_reducible refine we_call0 ?_))
local macro_rules | `(tactic| walk_at "d1") => `(tactic| ((with_reducible refine br_t ?h1 ?_); (case h1 => walk_at "t")))
local macro_rules | `(tactic| walk_at "d1") => `(tactic| ((with_reducible refine rv_inT ?a1 ?a2 ?_); (case a1 => rfl); (case a2 => first | rfl | decide +kernel)))
local macro_rules | `(tactic| walk_at "d1") => `(tactic| ((with_reducible refine len_and ?h1 ?_); (case h1 => first | decide | (simp; done) | (simp; omega))))
local macro_rules | `(tactic| walk_at "d1") => `(tactic| ((with_reducible refine br_f ?h1 ?_); (case h1 => walk_at "t")))
local macro_rules | `(tactic| walk_at "d1") => `(tactic| (with_reducible refine ⟨_, rfl, ?_⟩))
local macro_rules | `(tactic| walk_at "d1") => `(tactic| (with_reducible refine ws_ret ?_))
local macro_rules | `(tactic| walk_at "d1") => `(tactic| (with_reducible refine rv_eqS ?_))
local macro_rules | `(tactic| walk_at "d1") => `(tactic| (with_reducible refine we_tup ?_))
local macro_rules | `(tactic| walk_at "d1") => `(tactic| (with_reducible refine rv_ix0 ?_))
local macro_rules | `(tactic| walk_at "d1") => `(tactic| (with_reducible refine ws_next ?_))
local macro_rules | `(tactic| walk_at "d1") => `(tactic| (with_reducible refine ws_if ?_))
local macro_rules | `(tactic| walk_at "d1") => `(tactic| (with_reducible refine wt_test ?_))
local macro_rules | `(tactic| walk_at "d1") => `(tactic| (with_reducible refine ws_seq ?_))
local macro_rules | `(tactic| walk_at "d1") => `(tactic| (with_reducible refine wa_nil ?_))
local macro_rules | `(tactic| walk_at "d1") => `(tactic| (with_reducible refine we_int ?_))
local macro_rules | `(tactic| walk_at "d1") => `(tactic| (with_reducible refine we_str ?_))
local macro_rules | `(tactic| walk_at "d1") => `(tactic| (with_reducible refine we_op ?_))
local macro_rules | `(tactic| walk_at "d1") => `(tactic| ((with_reducible refine' we_var ?h1 ?_); (case h1 => exact rfl)))
local macro_rules | `(tactic| walk_at "d1") => `(tactic| (with_reducible refine wa_cons ?_))
local macro_rules | `(tactic| walk_at "d") => `(tactic| repeat (walk_at "d1"))
theorem sc_length_by : FnScope ["words", "term", "part"] ["words", "term"] (defScope s_length_by) := ⟨rfl, rfl, rfl, by decide +kernel, rfl, by decide +kernel, by decide +kernel⟩
def S_len (n : Nat) : SpD := fun xs M Q => ∃ t : Tm, xs = [.core, t.enc] ∧ t.dep ≤ n ∧ ∀ M', MEx M M' → Q (.int t.len) M'
section
variable {P : Program} {w : World} {K : PySem.W.Frag} {mg : Str → Option Value} {base : Heap}
theorem step_length_by (G : Glb K mg) {n : Nat} (c_length_by : Cal P w K mg base n "length_by" (S_len n) []) : Cal P w K mg base (n + 1) "length_by" (S_len (n + 1)) [] := by
  obtain ⟨aLEAVES, mLEAVES, tL⟩ := G.k_LEAVES
  refine cal_mk (ps := ["words", "term"]) G.d_length_by (fun _ _ _ _ _ _ us hl => match us, hl with | [_, _], _ => rfl) sc_length_by (fun xs M Q h => by obtain ⟨t, rfl, _⟩ := h; rfl) fun f cdv A outer s H E hr => ⟨_, (pss_cons (ps_if (pt_cmpR (op_inK (K := K) rfl) (pe_ix (ix_tupK (K := K) rfl) (pv 1) pe_int (fun _ _ => rfl)) (pe_glob (v := .ref aLEAVES) rfl mLEAVES rfl) (by rfl))
        (pss_one (ps_ret pe_int))
        pss_nil)
      (pss_one (ps_ret (pe_op op_add (pe_op op_add pe_int (pe_callB (cr_sumTK (K := K) rfl rfl) (by rfl) G.b_sum (by decide +kernel) (pa_cons (pe_dget (hu_of hr) (pv 0) (pe_ix (ix_tupK (K := K) rfl) (pv 1) pe_int (fun _ _ => rfl)) (fun _ _ => rfl)) pa_nil))) (pe_callB (cr_sumK (K := K) rfl rfl) (by rfl) G.b_sum (by decide +kernel) (pa_cons (pe_lc (own := [("part", 2)]) (by rfl) sc_length_by.nd (pi_tupK (K := K) rfl (pe_slice (sl_tupK (K := K) rfl) (pv 1) (po_some pe_int) po_none)) (blkOk_by (N := ["words", "term", "part"]) (sc := defScope s_length_by) (by decide +kernel)) (fun _ _ _ _ _ => (pg_name (i := 2) sc_length_by.nd rfl (.inl rfl))) (fun _ _ _ _ _ => pts_nil) (fun _ _ _ _ _ => (pe_cal c_length_by hr (by omega) ⟨rfl, rfl, rfl, rfl, rfl⟩ rfl (pa_cons (pv 0) (pa_cons (pv 2) pa_nil))))) pa_nil)))))), fun xs M Q h => ?_⟩
  obtain ⟨t, rfl, hd, q⟩ := h
  cases hu : t.isUse with
  | false =>
    refine ws_seq (ws_if (wt_test (we_op (we_word (t := t) rfl ?_))))
    walk_at "d"
    first | (refine br_t (leaf_leaves hu) ?_; walk_at "d") | skip
    have e : t.len = 1 := by cases t <;> first | rfl | cases hu
    have q' := q M .refl
    rw [e] at q'
    exact q'
  | true =>
    rw [Tm.enc_use hu]
    walk_at "d"
    first | (refine br_f (use_leaves hu) ?_; walk_at "d") | skip
    refine we_core ?_
    walk_at "d"
    refine ⟨_, _, rfl, rfl, Tm.core_names hu, ?_⟩
    walk_at "d"
    refine rl_sumTN ?_
    walk_at "d"
    refine we_lcParts (t := t) (fun p => .int (p.len : Int)) rfl rfl ?_ ?_
    · intro p hp M2 hM
      walk_at "d"
      exact ⟨p, rfl, by have := Tm.dep_part hp; omega, fun M' h => ⟨h, rfl⟩⟩
    · intro r M2 hM hr
      walk_at "d"
      refine rl_sumN hr ?_
      walk_at "d"
      have e := Tm.len_use hu
      have q' := q M2 hM
      rw [e] at q'
      simpa using q'
end
end FS
set_option maxHeartbeats 4000000
/-! list(zip(a, b)), a and b tuples. -/
namespace FS
open PySem PySem.W PySem.Spec PySem.Calls PyProof.Rows PyProof.V
section
variable {prog : Program} {w : World} {A : Around} {E : Value → Shared → Prop} {s : Shared}
theorem zT_item_held {z TI TO T i1 i2 l1 l2 : Addr} {f : Bool} {oT : Obj} {k1 k2 : Nat} {xs ys : Array Value} {x y : Value} {Q : Value → Shared → Prop} (D : ZipApart z TI TO i1 i2 l1 l2)
    (hz : IsZipHeld s.heap z TI TO T f) (hT : s.heap.get? T = some oT) (hTI : IsPair s.heap TI (.ref i1) (.ref i2))
    (h1 : s.heap.IsTupleIter i1 l1 k1) (h2 : s.heap.IsTupleIter i2 l2 k2) (hl1 : s.heap.IsTuple l1 xs) (hl2 : s.heap.IsTuple l2 ys) (hx : xs[k1]? = some x) (hy : ys[k2]? = some y)
    (hQ : ∀ h', IsZipHeld h' z TI TO T true → h'.IsTupleIter i1 l1 (k1 + 1) → h'.IsTupleIter i2 l2 (k2 + 1) → IsPair h' s.heap.objs.size x y → h'.objs.size = s.heap.objs.size + 1 →
      (∀ c o, c ≠ z → c ≠ i1 → c ≠ i2 → s.heap.get? c = some o → h'.get? c = some o) → Q (.ref s.heap.objs.size) { s with heap := h' }) :
    wpAny (model prog w) A (Builtin.«zip.__next__» ⟨[.ref z], []⟩) (fun fin s' => ∃ v, fin = .done (.ret v) ∧ Q v s') E s := by
  show wpAny _ _ (field (.ref z) 2 >>= _) _ _ _
  refine wpAny_bind (wpAny_field hz rfl (x := .bool false) rfl ?_)
  show wpAny _ _ (field (.ref z) 3 >>= _) _ _ _
  refine wpAny_bind (wpAny_field hz rfl (x := .ref TI) rfl ?_)
  refine wpAny_bind (wpAny_seqItems hTI rfl ?_)
  show wpAny _ _ (Builtin.SmallTypes.ownedTupleIsFree (.ref z) >>= _) _ _ _
  refine wpAny_bind (wpAny_tupleHeld_zip hz hT fun h₁ hz₁ hs₁ => ?_)
  simp only [Bool.false_eq_true, if_false]
  refine wpAny_bind ?_
  rw [← Array.forIn_toList]
  simp only [List.forIn_cons, List.forIn_nil]
  refine wpAny_bind (wpAny_bind (wpAny_holding ?_))
  show wpAny _ _ (Builtin.SmallTypes.nextOf (.ref i1) >>= _) _ _ _
  refine wpAny_bind (RZ.nextOf_tuple_item (s := { s with heap := h₁ }) (h1.extBut hs₁.extBut D.i1z) (hl1.extBut hs₁.extBut D.l1z) hx fun h₂ h1₂ hs₂ => wpAny_pure ?_)
  refine wpAny_pure ?_
  refine wpAny_bind (wpAny_bind (wpAny_holding ?_))
  show wpAny _ _ (Builtin.SmallTypes.nextOf (.ref i2) >>= _) _ _ _
  refine wpAny_bind (RZ.nextOf_tuple_item (s := { s with heap := h₂ }) ((h2.extBut hs₁.extBut D.i2z).extBut hs₂.extBut D.i12.symm) ((hl2.extBut hs₁.extBut D.l2z).extBut hs₂.extBut D.l2i1) hy fun h₃ h2₃ hs₃ => wpAny_pure ?_)
  refine wpAny_pure (wpAny_pure ?_)
  show wpAny _ _ (newTuple [x, y] >>= _) _ _ _
  refine wpAny_bind (wpAny_newTuple ?_)
  have hsz : h₃.objs.size = s.heap.objs.size := by rw [hs₃.1, hs₂.1, hs₁.1]
  have hz₃ : IsZipHeld h₃ z TI TO T true := hs₃.extBut _ _ D.i2z.symm (hs₂.extBut _ _ D.i1z.symm hz₁)
  have hk : ∀ c o, c ≠ z → c ≠ i1 → c ≠ i2 → s.heap.get? c = some o → h₃.get? c = some o := fun c o c1 c2 c3 e => hs₃.extBut _ _ c3 (hs₂.extBut _ _ c2 (hs₁.extBut _ _ c1 e))
  have h1₃ : h₃.IsTupleIter i1 l1 (k1 + 1) := h1₂.extBut hs₃.extBut D.i12
  refine wpAny_pure ⟨_, rfl, ?_⟩
  show Q (.ref h₃.objs.size) _
  have hp : IsPair (h₃.push { cls := .type "tuple", data := .seq #[x, y] }) h₃.objs.size x y := Heap.get?_push_size _ rfl
  have hz4 : (h₃.push { cls := .type "tuple", data := .seq #[x, y] }).objs.size = h₃.objs.size + 1 := Heap.size_push ..
  rw [hsz] at hp hz4 ⊢
  exact hQ _ (Heap.get?_push_of_some _ hz₃) (h1₃.at fun o e => Heap.get?_push_of_some _ e) (h2₃.at fun o e => Heap.get?_push_of_some _ e) hp hz4 fun c o c1 c2 c3 e => Heap.get?_push_of_some _ (hk c o c1 c2 c3 e)

theorem zT_end_held {z TI TO T i1 i2 l1 l2 : Addr} {f : Bool} {oT : Obj} {k1 k2 : Nat} {xs ys : Array Value} {Q : Fin → Shared → Prop} (hh : A.handled = none) (D : ZipApart z TI TO i1 i2 l1 l2)
    (hz : IsZipHeld s.heap z TI TO T f) (hT : s.heap.get? T = some oT) (hTI : IsPair s.heap TI (.ref i1) (.ref i2))
    (h1 : s.heap.IsTupleIter i1 l1 k1) (h2 : s.heap.IsTupleIter i2 l2 k2) (hl1 : s.heap.IsTuple l1 xs) (hl2 : s.heap.IsTuple l2 ys) (hend : xs[k1]? = none ∨ ys[k2]? = none)
    (hE : ∀ h' e, (∀ c o, c ≠ z → c ≠ i1 → c ≠ i2 → s.heap.get? c = some o → h'.get? c = some o) → (∃ o, h'.get? e = some o ∧ o.cls = .type "StopIteration") → E (.ref e) { s with heap := h' }) :
    wpAny (model prog w) A (Builtin.«zip.__next__» ⟨[.ref z], []⟩) Q E s := by
  show wpAny _ _ (field (.ref z) 2 >>= _) _ _ _
  refine wpAny_bind (wpAny_field hz rfl (x := .bool false) rfl ?_)
  show wpAny _ _ (field (.ref z) 3 >>= _) _ _ _
  refine wpAny_bind (wpAny_field hz rfl (x := .ref TI) rfl ?_)
  refine wpAny_bind (wpAny_seqItems hTI rfl ?_)
  show wpAny _ _ (Builtin.SmallTypes.ownedTupleIsFree (.ref z) >>= _) _ _ _
  refine wpAny_bind (wpAny_tupleHeld_zip hz hT fun h₁ hz₁ hs₁ => ?_)
  simp only [Bool.false_eq_true, if_false]
  refine wpAny_bind ?_
  rw [← Array.forIn_toList]
  simp only [List.forIn_cons, List.forIn_nil]
  refine wpAny_bind (wpAny_bind (wpAny_holding ?_))
  show wpAny _ _ (Builtin.SmallTypes.nextOf (.ref i1) >>= _) _ _ _
  cases hx : xs[k1]? with
  | none =>
    refine wpAny_bind (RZ.nextOf_tuple_end (s := { s with heap := h₁ }) hh (h1.extBut hs₁.extBut D.i1z) (hl1.extBut hs₁.extBut D.l1z) hx fun h₂ e hs₂ he => ?_)
    exact hE h₂ e (fun c o c1 c2 _ x => hs₂ _ _ c2 (hs₁.extBut _ _ c1 x)) he
  | some x =>
    have hy : ys[k2]? = none := by rcases hend with h | h; rw [hx] at h; cases h; exact h
    refine wpAny_bind (RZ.nextOf_tuple_item (s := { s with heap := h₁ }) (h1.extBut hs₁.extBut D.i1z) (hl1.extBut hs₁.extBut D.l1z) hx fun h₂ h1₂ hs₂ => wpAny_pure ?_)
    refine wpAny_pure ?_
    refine wpAny_bind (wpAny_bind (wpAny_holding ?_))
    show wpAny _ _ (Builtin.SmallTypes.nextOf (.ref i2) >>= _) _ _ _
    refine wpAny_bind (RZ.nextOf_tuple_end (s := { s with heap := h₂ }) hh ((h2.extBut hs₁.extBut D.i2z).extBut hs₂.extBut D.i12.symm) ((hl2.extBut hs₁.extBut D.l2z).extBut hs₂.extBut D.l2i1) hy fun h₃ e hs₃ he => ?_)
    exact hE h₃ e (fun c o c1 c2 c3 x => hs₃ _ _ c3 (hs₂.extBut _ _ c2 (hs₁.extBut _ _ c1 x))) he

/-- the zip object ahead of its k-th turn; S: the list that gathers -/
structure ZSt (h : Heap) (z TI TO i1 i2 l1 l2 : Addr) (k : Nat) (S : Addr) : Prop where
  ti : IsPair h TI (.ref i1) (.ref i2)
  t1 : h.IsTupleIter i1 l1 k
  t2 : h.IsTupleIter i2 l2 k
  zz : (IsZip h z TI TO .none ∧ ∃ a b, IsPair h TO a b) ∨ ∃ T f oT, IsZipHeld h z TI TO T f ∧ h.get? T = some oT ∧ T ≠ z ∧ T ≠ i1 ∧ T ≠ i2 ∧ T ≠ S
theorem ZSt.ty {h : Heap} {z TI TO i1 i2 l1 l2 S : Addr} {k : Nat} {s : Shared} (st : ZSt h z TI TO i1 i2 l1 l2 k S) (e : s.heap = h) : s.TypeIs (.ref z) "zip" := by
  subst e
  rcases st.zz with ⟨q, _⟩ | ⟨T, f, oT, q, _⟩
  · exact ⟨_, q, rfl⟩
  · exact ⟨_, q, rfl⟩
theorem ZSt.keep {h h' : Heap} {z TI TO i1 i2 l1 l2 S : Addr} {k : Nat} (st : ZSt h z TI TO i1 i2 l1 l2 k S) (kp : ∀ b o, b ≠ S → h.get? b = some o → h'.get? b = some o) (n : S ≠ z ∧ S ≠ TI ∧ S ≠ TO ∧ S ≠ i1 ∧ S ≠ i2) : ZSt h' z TI TO i1 i2 l1 l2 k S := by
  refine ⟨kp _ _ n.2.1.symm st.ti, st.t1.at fun o e => kp _ _ n.2.2.2.1.symm e, st.t2.at fun o e => kp _ _ n.2.2.2.2.symm e, ?_⟩
  rcases st.zz with ⟨q, a, b, q2⟩ | ⟨T, f, oT, q, q2, n1, n2, n3, n4⟩
  · exact .inl ⟨kp _ _ n.1.symm q, a, b, kp _ _ n.2.2.1.symm q2⟩
  · exact .inr ⟨T, f, oT, kp _ _ n.1.symm q, kp _ _ n4 q2, n1, n2, n3, n4⟩
theorem zst_item {z TI TO i1 i2 l1 l2 S : Addr} {k : Nat} {xs ys : Array Value} {x y : Value} {Q : Option Value → Shared → Prop} (D : ZipApart z TI TO i1 i2 l1 l2) (st : ZSt s.heap z TI TO i1 i2 l1 l2 k S) (hS : S < s.heap.objs.size)
    (hl1 : s.heap.IsTuple l1 xs) (hl2 : s.heap.IsTuple l2 ys) (hx : xs[k]? = some x) (hy : ys[k]? = some y)
    (hQ : ∀ h', ZSt h' z TI TO i1 i2 l1 l2 (k + 1) S → IsPair h' s.heap.objs.size x y → h'.objs.size = s.heap.objs.size + 1 →
      (∀ c o, c ≠ z → c ≠ TO → c ≠ i1 → c ≠ i2 → s.heap.get? c = some o → h'.get? c = some o) → Q (some (.ref s.heap.objs.size)) { s with heap := h' }) :
    wpAny (model prog w) A (pyNext (.ref z)) Q E s := by
  have lt : ∀ {b : Addr} {o : Obj}, s.heap.get? b = some o → s.heap.objs.size ≠ b := fun e => Nat.ne_of_gt (Heap.lt_size e)
  have li1 : s.heap.objs.size ≠ i1 := by obtain ⟨o, e, _⟩ := st.t1; exact lt e
  have li2 : s.heap.objs.size ≠ i2 := by obtain ⟨o, e, _⟩ := st.t2; exact lt e
  rcases st.zz with ⟨q, a, b, q2⟩ | ⟨T, f, oT, q, q2, n1, n2, n3, n4⟩
  · refine RZ.pyNext_zipT_item D q st.ti q2 st.t1 st.t2 hl1 hl2 hx hy fun h' g1 g2 g3 g4 g5 g6 g7 => ?_
    refine hQ h' ⟨g7 _ _ D.TIz D.TITO D.TIi1 D.TIi2 st.ti, g3, g4, .inr ⟨s.heap.objs.size, false, _, g1, g5, lt q, li1, li2, Nat.ne_of_gt hS⟩⟩ g5 g6 g7
  · have hTy : s.TypeIs (.ref z) "zip" := ⟨_, q, rfl⟩
    unfold pyNext
    refine wpAny_bind (wpAny_attempt (wpAny_callSpecial?_slot (name := Str.ofString "__next__") hTy F.slot_zip_next
      (wpAny_call_entry F.slot_zip_next hTy F.entry_zip_next
        (zT_item_held D q q2 st.ti st.t1 st.t2 hl1 hl2 hx hy fun h' a1 a3 a4 a5 a6 a7 => wpAny_pure ?_) (F.args_zip_next_1 _))))
    exact hQ h' ⟨a7 _ _ D.TIz D.TIi1 D.TIi2 st.ti, a3, a4, .inr ⟨T, true, oT, a1, a7 _ _ n1 n2 n3 q2, n1, n2, n3, n4⟩⟩ a5 a6 fun c o c1 _ c3 c4 e => a7 c o c1 c3 c4 e
theorem zst_end {z TI TO i1 i2 l1 l2 S : Addr} {k : Nat} {xs ys : Array Value} {Q : Option Value → Shared → Prop} (hh : A.handled = none) (D : ZipApart z TI TO i1 i2 l1 l2) (st : ZSt s.heap z TI TO i1 i2 l1 l2 k S)
    (hl1 : s.heap.IsTuple l1 xs) (hl2 : s.heap.IsTuple l2 ys) (hend : xs[k]? = none ∨ ys[k]? = none)
    (hQ : ∀ h', (∀ c o, c ≠ z → c ≠ TO → c ≠ i1 → c ≠ i2 → s.heap.get? c = some o → h'.get? c = some o) → Q none { s with heap := h' }) :
    wpAny (model prog w) A (pyNext (.ref z)) Q E s := by
  rcases st.zz with ⟨q, a, b, q2⟩ | ⟨T, f, oT, q, q2, n1, n2, n3, n4⟩
  · exact RZ.pyNext_zipT_end hh D q st.ti q2 st.t1 st.t2 hl1 hl2 hend hQ
  · have hTy : s.TypeIs (.ref z) "zip" := ⟨_, q, rfl⟩
    unfold pyNext
    refine wpAny_bind (wpAny_attempt (wpAny_callSpecial?_slot (name := Str.ofString "__next__") hTy F.slot_zip_next
      (wpAny_call_entry F.slot_zip_next hTy F.entry_zip_next (zT_end_held hh D q q2 st.ti st.t1 st.t2 hl1 hl2 hend fun h' e hk he => ?_) (F.args_zip_next_1 _))))
    obtain ⟨o, ho, hc⟩ := he
    refine wpAny_bind (wpAny_isInstance (T := "StopIteration") (b := true) ⟨o, ho, hc⟩ isSubtype_stop ?_)
    exact wpAny_pure (hQ _ fun c o c1 _ c3 c4 e => hk c o c1 c3 c4 e)

/-- the pairs gathered so far -/
structure ZG (xs ys : Array Value) (lo : Addr) (h : Heap) (as : List Addr) : Prop where
  rise : as.Pairwise (· < ·)
  above : ∀ a ∈ as, lo < a
  pairs : ∀ (j : Nat) (a : Addr), as[j]? = some a → ∃ x y, xs[j]? = some x ∧ ys[j]? = some y ∧ IsPair h a x y
theorem ZG.there {xs ys : Array Value} {lo : Addr} {h : Heap} {as : List Addr} (g : ZG xs ys lo h as) {a : Addr} (ha : a ∈ as) : a < h.objs.size := by
  obtain ⟨j, hj⟩ := List.mem_iff_getElem?.mp ha
  obtain ⟨_, _, _, _, e⟩ := g.pairs j a hj
  exact Heap.lt_size e
theorem nolen_zip : typeLookup (.type "zip") "__len__" = pure none := by rw [typeLookup_type, builtinLookup_eq_fast]; kernel_rfl
theorem nohint_zip : typeLookup (.type "zip") "__length_hint__" = pure none := by rw [typeLookup_type, builtinLookup_eq_fast]; kernel_rfl
/-- the loop of list(zip) -/
theorem zst_loop {R : Result → Shared → Prop} {z TI TO i1 i2 l1 l2 S : Addr} {xs ys : Array Value} {n : Nat} (hh : A.handled = none) (D : ZipApart z TI TO i1 i2 l1 l2) (hn : n = min xs.size ys.size) (hsz : n ≤ sizeLine)
    (hS5 : S ≠ z ∧ S ≠ TI ∧ S ≠ TO ∧ S ≠ i1 ∧ S ≠ i2) (hSl : S ≠ l1 ∧ S ≠ l2) (hlo : z < S ∧ TI < S ∧ TO < S ∧ i1 < S ∧ i2 < S) (res : Value) {h₁ : Heap}
    (hR : ∀ h' tk acc c as, (∀ b o, b ≠ S → b ≠ z → b ≠ TO → b ≠ i1 → b ≠ i2 → h₁.get? b = some o → h'.get? b = some o) → h'.get? S = some { cls := .type "list", dict := none, data := .seq acc c, slots := #[] } → as.length = n → ZG xs ys S h' as →
      acc.toList = as.map Value.ref → R (.ok (.ret res)) { s with heap := h', toks := tk }) :
    ∀ (k i : Nat) (h : Heap) (tk c : Nat) (acc : Array Value) (as : List Addr), n - i = k → i ≤ n → ZSt h z TI TO i1 i2 l1 l2 i S → h.IsTuple l1 xs → h.IsTuple l2 ys → (∀ b o, b ≠ S → b ≠ z → b ≠ TO → b ≠ i1 → b ≠ i2 → h₁.get? b = some o → h.get? b = some o) →
      h.get? S = some { cls := .type "list", dict := none, data := .seq acc c, slots := #[] } → acc.toList = as.map Value.ref → as.length = i → ZG xs ys S h as →
      codeAny (model prog w) A (.builtin "list.extend.loop" ⟨[.ref S, .ref z, res], []⟩) R { s with heap := h, toks := tk } := by
  obtain ⟨nz, nTI, nTO, n1, n2⟩ := hS5
  obtain ⟨z1, z2, z3, z4, z5⟩ := hlo
  intro k
  induction k with
  | zero =>
    intro i h tk c acc as hk hi st ht1 ht2 hkeep hS hacc hal hG
    have hin : i = n := by omega
    refine codeAny_builtin PySem.F.entry_extend_loop ?_
    rw [Around.under_plainId PySem.F.plain_extend_loop _]
    show wpAny _ A.in1 (pyNext (.ref z) >>= _) _ _ _
    refine wpAny_bind (zst_end (s := { s with heap := h, toks := tk }) (A := A.in1) hh D st ht1 ht2 ?_ fun h' he => ?_)
    · by_cases hc : xs.size ≤ ys.size
      · exact .inl (Array.getElem?_eq_none (by omega))
      · exact .inr (Array.getElem?_eq_none (by omega))
    · refine wpAny_pure (hR h' tk acc c as (fun b o h1 h2 h3 h4 h5 e => he b o h2 h3 h4 h5 (hkeep b o h1 h2 h3 h4 h5 e)) (he S _ nz nTO n1 n2 hS) (by omega) ⟨hG.rise, hG.above, fun j a hj => ?_⟩ hacc)
      obtain ⟨x, y, ex, ey, e3⟩ := hG.pairs j a hj
      have hb := hG.above a (List.mem_of_getElem? hj)
      exact ⟨x, y, ex, ey, he a _ (Nat.ne_of_gt (Nat.lt_trans z1 hb)) (Nat.ne_of_gt (Nat.lt_trans z3 hb)) (Nat.ne_of_gt (Nat.lt_trans z4 hb)) (Nat.ne_of_gt (Nat.lt_trans z5 hb)) e3⟩
  | succ k ih =>
    intro i h tk c acc as hk hi st ht1 ht2 hkeep hS hacc hal hG
    have hlt : i < n := by omega
    have hx : xs[i]? = some xs[i] := Array.getElem?_eq_getElem (by omega)
    have hy : ys[i]? = some ys[i] := Array.getElem?_eq_getElem (by omega)
    have hasz : acc.size = i := by rw [← Array.length_toList, hacc, List.length_map, hal]
    refine codeAny_builtin PySem.F.entry_extend_loop ?_
    rw [Around.under_plainId PySem.F.plain_extend_loop _]
    show wpAny _ A.in1 (pyNext (.ref z) >>= _) _ _ _
    refine wpAny_bind (zst_item (s := { s with heap := h, toks := tk }) (A := A.in1) (S := S) D st (Heap.lt_size hS) ht1 ht2 hx hy fun h' st' hp hz hkp => ?_)
    dsimp only at hp hz hkp ⊢
    have hS' := hkp S _ nz nTO n1 n2 hS
    have up : ∀ b o, b ≠ S → h'.get? b = some o → (h'.update S (Obj.mapSeq (·.push (Value.ref h.objs.size)))).get? b = some o := fun b o hb e => (Heap.get?_update_other _ _ (Ne.symm hb)).trans e
    have hSlt : S < h.objs.size := Heap.lt_size hS
    have tupk : ∀ {l : Addr} {vs : Array Value}, h.IsTuple l vs → S ≠ l → l ≠ z → l ≠ TO → l ≠ i1 → l ≠ i2 → (h'.update S (Obj.mapSeq (·.push (Value.ref h.objs.size)))).IsTuple l vs := fun {l vs} ht e1 e2 e3 e4 e5 => by
      obtain ⟨o, ho, r⟩ := ht
      exact ⟨o, up _ _ e1.symm (hkp _ _ e2 e3 e4 e5 ho), r⟩
    show wpAny _ A.in1 (updateSeq S (·.push (Value.ref h.objs.size)) >>= _) _ _ _
    refine wpAny_bind ?_
    refine wpAny_updateSeq hS' rfl (wpAny_pure ⟨plainId_quiet PySem.F.plain_extend_loop _, ih (i + 1) _ tk _ (acc.push (Value.ref h.objs.size)) (as ++ [h.objs.size]) (by omega) hlt (st'.keep up ⟨nz, nTI, nTO, n1, n2⟩)
      (tupk ht1 hSl.1 D.l1z D.l1TO D.l1i1 D.l1i2) (tupk ht2 hSl.2 D.l2z D.l2TO D.l2i1 D.l2i2)
      (fun b o h1 h2 h3 h4 h5 e => up b o h1 (hkp b o h2 h3 h4 h5 (hkeep b o h1 h2 h3 h4 h5 e))) (Heap.get?_update_self _ hS' rfl) (by rw [Array.toList_push, hacc, List.map_append]; rfl) (by rw [List.length_append, hal]; rfl) ⟨?_, ?_, ?_⟩⟩) (by rw [hasz]; omega) (by show (acc.push (Value.ref h.objs.size)).size ≤ sizeLine + 1; rw [Array.size_push, hasz]; omega)
    · refine List.pairwise_append.mpr ⟨hG.rise, List.pairwise_singleton _ _, fun a ha b hb => ?_⟩
      rw [List.mem_singleton.mp hb]
      exact hG.there ha
    · intro a ha
      rcases List.mem_append.mp ha with ha | ha
      · exact hG.above a ha
      · rw [List.mem_singleton.mp ha]; exact hSlt
    · intro j b hj
      rcases Nat.lt_trichotomy j as.length with h1 | h1 | h1
      · rw [List.getElem?_append_left h1] at hj
        obtain ⟨x, y, ex, ey, e3⟩ := hG.pairs j b hj
        have hb := hG.above b (List.mem_of_getElem? hj)
        exact ⟨x, y, ex, ey, up b _ (Nat.ne_of_gt hb) (hkp b _ (Nat.ne_of_gt (Nat.lt_trans z1 hb)) (Nat.ne_of_gt (Nat.lt_trans z3 hb)) (Nat.ne_of_gt (Nat.lt_trans z4 hb)) (Nat.ne_of_gt (Nat.lt_trans z5 hb)) e3)⟩
      · subst h1
        have hb : h.objs.size = b := by simpa using hj
        subst hb
        rw [hal]
        exact ⟨_, _, hx, hy, up _ _ (Nat.ne_of_gt hSlt) hp⟩
      · have hnone : (as ++ [h.objs.size])[j]? = none := List.getElem?_eq_none (by rw [List.length_append, List.length_singleton]; omega)
        rw [hnone] at hj; cases hj

theorem zl_extend {R : Result → Shared → Prop} {z TI TO i1 i2 l1 l2 S : Addr} {xs ys : Array Value} {n c₀ : Nat} (hh : A.handled = none) (D : ZipApart z TI TO i1 i2 l1 l2) (hn : n = min xs.size ys.size) (hsz : n ≤ sizeLine)
    (st : ZSt s.heap z TI TO i1 i2 l1 l2 0 S) (hz : IsZip s.heap z TI TO .none) (ht1 : s.heap.IsTuple l1 xs) (ht2 : s.heap.IsTuple l2 ys)
    (hS5 : S ≠ z ∧ S ≠ TI ∧ S ≠ TO ∧ S ≠ i1 ∧ S ≠ i2) (hSl : S ≠ l1 ∧ S ≠ l2) (hlo : z < S ∧ TI < S ∧ TO < S ∧ i1 < S ∧ i2 < S) (res : Value)
    (hS : s.heap.get? S = some { cls := .type "list", data := .seq #[] c₀ })
    (hR : ∀ h' tk acc c as, (∀ b o, b ≠ S → b ≠ z → b ≠ TO → b ≠ i1 → b ≠ i2 → s.heap.get? b = some o → h'.get? b = some o) → h'.get? S = some { cls := .type "list", dict := none, data := .seq acc c, slots := #[] } → as.length = n → ZG xs ys S h' as →
      acc.toList = as.map Value.ref → R (.ok (.ret res)) { s with heap := h', toks := tk }) :
    wpAny (model prog w) A.in1 (Builtin.List.listExtendWith (.ref S) (.ref z) res)
      (fun fin s' => match fin with | .done f => R (.ok f) s' | .again c' => c'.quiet = true ∧ codeAny (model prog w) A c' R s') (fun e s' => R (.error e) s') s := by
  unfold Builtin.List.listExtendWith
  refine wpAny_bind (wpAny_typeOf (T := "zip") (st.ty rfl) ?_)
  have h1 : Builtin.List.listSameRef (.ref S) (.ref z) = false := by simp [Builtin.List.listSameRef, hS5.1]
  have h2 : (Value.type "zip" == Value.type "list") = false := by decide
  have h3 : (Value.type "zip" == Value.type "tuple") = false := by decide
  simp only [h1, h2, h3, Bool.or_false, Bool.false_eq_true, if_false]
  refine wpAny_bind (wpAny_pyIter_zip hz ?_)
  refine wpAny_bind (wpAny_holding ?_)
  unfold Builtin.List.listLengthHint
  refine wpAny_bind (wpAny_specialOf (st.ty rfl) nolen_zip ?_)
  show wpAny _ A.in1 (specialOf (Value.ref z) (Str.ofString "__length_hint__") >>= _) _ _ _
  refine wpAny_bind (wpAny_specialOf (st.ty rfl) nohint_zip ?_)
  refine wpAny_pure ?_
  show wpAny _ A.in1 (rule "list.extend.makes-room" >>= fun _ => Builtin.List.listTouch (.ref S) >>= fun _ =>
    again (.builtin "list.extend.loop" ⟨[.ref S, .ref z, res], []⟩)) _ _ _
  refine wpAny_bind (wpAny_rule ?_)
  refine wpAny_bind ?_
  show wpAny _ A.in1 (updateSeq S (·.push .none) >>= fun _ => updateSeq S (·.pop)) _ _ _
  refine wpAny_bind (wpAny_updateSeq hS rfl ?_)
  have hS₂ := Heap.get?_update_self (Obj.mapSeq (·.push Value.none)) hS rfl
  refine wpAny_updateSeq (hz := by seq_fits) hS₂ rfl ?_
  have hS₃ := Heap.get?_update_self (Obj.mapSeq (·.pop)) hS₂ rfl
  have oth : ∀ b o, b ≠ S → s.heap.get? b = some o → ((s.heap.update S (Obj.mapSeq (·.push Value.none))).update S (Obj.mapSeq (·.pop))).get? b = some o :=
    fun b o hb e => (Heap.get?_update_other _ _ (Ne.symm hb)).trans ((Heap.get?_update_other _ _ (Ne.symm hb)).trans e)
  have tupk : ∀ {l : Addr} {vs : Array Value}, s.heap.IsTuple l vs → S ≠ l → ((s.heap.update S (Obj.mapSeq (·.push Value.none))).update S (Obj.mapSeq (·.pop))).IsTuple l vs := fun {l vs} ht e1 => by
    obtain ⟨o, ho, r⟩ := ht
    exact ⟨o, oth _ _ e1.symm ho, r⟩
  exact wpAny_pure ⟨plainId_quiet PySem.F.plain_extend_loop _, zst_loop (s := s) (h₁ := s.heap) hh D hn hsz hS5 hSl hlo res hR n 0 _ _ _ #[] [] (Nat.sub_zero _) (Nat.zero_le _) (st.keep oth hS5) (tupk ht1 hSl.1) (tupk ht2 hSl.2)
    (fun b o hb _ _ _ _ e => oth b o hb e) hS₃ rfl rfl ⟨List.Pairwise.nil, (fun _ ha => nomatch ha), (fun j a hj => by simp at hj)⟩⟩
theorem zl_call {Q : Value → Shared → Prop} {z TI TO i1 i2 l1 l2 : Addr} {xs ys : Array Value} {n : Nat} {a b : Value} (hh : A.handled = none) (D : ZipApart z TI TO i1 i2 l1 l2) (hn : n = min xs.size ys.size) (hsz : n ≤ sizeLine)
    (hz : IsZip s.heap z TI TO .none) (hTI : IsPair s.heap TI (.ref i1) (.ref i2)) (hTO : IsPair s.heap TO a b) (h1 : s.heap.IsTupleIter i1 l1 0) (h2 : s.heap.IsTupleIter i2 l2 0) (ht1 : s.heap.IsTuple l1 xs) (ht2 : s.heap.IsTuple l2 ys)
    (hQ : ∀ h' tk acc c as, (∀ b o, b ≠ z → b ≠ TO → b ≠ i1 → b ≠ i2 → s.heap.get? b = some o → h'.get? b = some o) → h'.get? s.heap.objs.size = some { cls := .type "list", dict := none, data := .seq acc c, slots := #[] } → as.length = n → ZG xs ys s.heap.objs.size h' as →
      acc.toList = as.map Value.ref → Q (.ref s.heap.objs.size) { s with heap := h', toks := tk }) :
    wpAny (model prog w) A (call (.type "list") [.ref z]) Q E s := by
  refine callType_codes (Q₁ := fun obj s₁ => obj = .ref s.heap.objs.size ∧ s₁ = { s with heap := s.heap.push { cls := .type "list", data := .seq #[] } }) PySem.F.called_list (PySem.F.typeCall_list_1 _) PySem.F.entry_list_init
    (code_list_new _ ⟨rfl, rfl⟩) fun obj s₁ h₁ => ?_
  obtain ⟨rfl, rfl⟩ := h₁
  have hS : (s.heap.push { cls := .type "list", data := .seq #[] }).get? s.heap.objs.size = some { cls := .type "list", data := .seq #[] } := Heap.get?_push_size _ rfl
  have li1 : i1 < s.heap.objs.size := by obtain ⟨o, e, _⟩ := h1; exact Heap.lt_size e
  have li2 : i2 < s.heap.objs.size := by obtain ⟨o, e, _⟩ := h2; exact Heap.lt_size e
  have ll1 : l1 < s.heap.objs.size := by obtain ⟨o, e, _⟩ := ht1; exact Heap.lt_size e
  have ll2 : l2 < s.heap.objs.size := by obtain ⟨o, e, _⟩ := ht2; exact Heap.lt_size e
  have lz : z < s.heap.objs.size := Heap.lt_size hz
  have lTI : TI < s.heap.objs.size := Heap.lt_size hTI
  have lTO : TO < s.heap.objs.size := Heap.lt_size hTO
  have hr : z ≠ s.heap.objs.size := Nat.ne_of_lt lz
  refine ⟨⟨_, hS, rfl⟩, PySem.F.args_list_init_2 _ _, ?_⟩
  show wpAny _ _ (do let old ← Builtin.List.listItems (.ref s.heap.objs.size); Builtin.List.listUpdate (.ref s.heap.objs.size) (fun _ => #[]); letGo old.toList.reverse; Builtin.List.listExtendWith (.ref s.heap.objs.size) (.ref z) .none) _ _ _
  refine wpAny_bind ?_
  unfold Builtin.List.listItems
  refine wpAny_bind (wpAny_seqItems hS rfl (wpAny_pure ?_))
  show wpAny _ _ (updateSeq s.heap.objs.size (fun _ => #[]) >>= fun _ => letGo (#[] : Array Value).toList.reverse >>= fun _ => Builtin.List.listExtendWith (.ref s.heap.objs.size) (.ref z) .none) _ _ _
  refine wpAny_bind (wpAny_updateSeq hS rfl ?_)
  have hS₂ := Heap.get?_update_self (Obj.mapSeq (fun _ => (#[] : Array Value))) hS rfl
  have oth : ∀ b o, s.heap.get? b = some o → ((s.heap.push { cls := .type "list", data := .seq #[] }).update s.heap.objs.size (Obj.mapSeq (fun _ => (#[] : Array Value)))).get? b = some o :=
    fun b o e => (Heap.get?_update_other _ _ (Nat.ne_of_gt (Heap.lt_size e))).trans (Heap.get?_push_of_some _ e)
  have tupk : ∀ {l : Addr} {vs : Array Value}, s.heap.IsTuple l vs → ((s.heap.push { cls := .type "list", data := .seq #[] }).update s.heap.objs.size (Obj.mapSeq (fun _ => (#[] : Array Value)))).IsTuple l vs := fun {l vs} ht => by
    obtain ⟨o, ho, r⟩ := ht
    exact ⟨o, oth _ _ ho, r⟩
  refine wpAny_bind (wpAny_letGo ?_)
  refine zl_extend (A := A.in1) (n := n) hh D hn hsz ⟨oth _ _ hTI, h1.at fun o e => oth _ _ e, h2.at fun o e => oth _ _ e, .inl ⟨oth _ _ hz, _, _, oth _ _ hTO⟩⟩ (oth _ _ hz) (tupk ht1) (tupk ht2)
    ⟨Nat.ne_of_gt lz, Nat.ne_of_gt lTI, Nat.ne_of_gt lTO, Nat.ne_of_gt li1, Nat.ne_of_gt li2⟩ ⟨Nat.ne_of_gt ll1, Nat.ne_of_gt ll2⟩ ⟨lz, lTI, lTO, li1, li2⟩ .none hS₂ fun h' tk acc c as hk hS' hl hG hacc => ?_
  exact ⟨rfl, hQ h' tk acc c as (fun b o g1 g2 g3 g4 e => hk b o (Nat.ne_of_lt (Heap.lt_size e)) g1 g2 g3 g4 (oth _ _ e)) hS' hl hG hacc⟩
end

/-! ### over the layer -/
section
open L2
theorem ne_up {b n : Nat} (k : Nat) (h : b < n) : b ≠ n + k := by omega
theorem ne_up5 {b n m : Nat} (h : b < n) (e : m = n + 5) : b ≠ m := by omega
theorem no_up5 {b n m : Nat} (h : b < n) (e : m = n + 5) (g : m < b) : False := by omega
theorem le_up5 {b n m : Nat} (e : m = n + 5) (g : m < b) : n ≤ b := by omega
/-- pairs tracked at their addresses -/
def putP : Hp → List Addr → List (V × V) → Hp
  | H, a :: as, p :: ps => putP (upd H a (.tup [p.1, p.2])) as ps
  | H, _, _ => H
theorem putP_off {b : Addr} : ∀ (as : List Addr) (ps : List (V × V)) (H : Hp), b ∉ as → putP H as ps b = H b
  | [], _, _, _ => rfl
  | _ :: _, [], _, _ => rfl
  | a :: as, p :: ps, H, h => by
    show putP (upd H a (.tup [p.1, p.2])) as ps b = H b
    rw [putP_off as ps _ (fun z => h (List.mem_cons_of_mem _ z)), upd_ne (fun z => h (by rw [z]; exact List.mem_cons_self))]
theorem putP_at : ∀ (as : List Addr) (ps : List (V × V)) (H : Hp), as.length = ps.length → as.Nodup → Paired (fun (t : Addr) (p : V × V) => putP H as ps t = some (.tup [p.1, p.2])) as ps
  | [], [], _, _, _ => .nil
  | [], _ :: _, _, h, _ => by cases h
  | _ :: _, [], _, h, _ => by cases h
  | a :: as, p :: ps, H, h, hn => by
    have hn' := List.nodup_cons.mp hn
    have ih := putP_at as ps (upd H a (.tup [p.1, p.2])) (Nat.succ.inj h) hn'.2
    refine .cons ?_ ih
    show putP (upd H a (.tup [p.1, p.2])) as ps a = some (.tup [p.1, p.2])
    rw [putP_off as ps _ hn'.1, upd_same]
def tListZip (K : PySem.W.Frag) (ta : TA) : TE := fun σ H Q => ta σ H fun vs H1 => ∃ a b xs ys, vs = [.ref a, .ref b] ∧ SqT K H1 a xs ∧ SqT K H1 b ys ∧
  ∀ (H' : Hp) (p : Addr) (ts : List Addr), (∀ b o, H1 b = some o → H' b = some o) → H1 p = none → H' p = some (.lst (ts.map V.ref)) → Paired (fun (t : Addr) (q : V × V) => H' t = some (.tup [q.1, q.2])) ts (xs.zip ys) → Q (.ref p) H'
theorem pe_listZip {X : Cx} {K : PySem.W.Frag} {e e2 : Expr} {ta : TA} {p p2 pos pos2 : Pos} (hK : X.K = K) (hc : X.calm = true) (hg : Gl X "list") (hm : X.mg "list" = none) (hgz : Gl X "zip") (hmz : X.mg "zip" = none) (ha : PA X [e, e2] ta)
    (hs : starEach [e, e2] X.env = (false, eval e X.env) :: starEach [e2] X.env := by rfl) (hpl : (backTo pos2 (starEach [e2] X.env)).any (·.1) = false := by rfl)
    (hs2 : starEach [.Call (.Name "zip" p2) [e, e2] [] pos2] X.env = (false, eval (.Call (.Name "zip" p2) [e, e2] [] pos2) X.env) :: starEach [] X.env := by rfl) :
    PE X (.Call (.Name "list" p) [.Call (.Name "zip" p2) [e, e2] [] pos2] [] pos) (tListZip K ta) := by
  subst hK
  refine ⟨fun pins s σ H Q I h => ?_⟩
  refine wpAny_Call_Name_kw (ld_blt I hg hm (by decide +kernel : bootBuiltins "list" = some (.type "list")) ?_)
  refine PyProof.Rows.callWith_type1 ?_ hs2 rfl
  rw [hs2]
  show wpAny _ _ (spliced ((false, eval (.Call (.Name "zip" p2) [e, e2] [] pos2) X.env) :: backTo pos (starEach [] X.env))) _ _ s
  refine Calls.spliced_cons ?_
  refine Call_ (ld_blt I hgz hmz PyProof.Rows.boot_zip (PyProof.Rows.callWith_type1 (thn (ha.run pos2 pins s σ H _ I h) fun us s1 hh => ?_) hs hpl))
  obtain ⟨vs, H1, I1, r1, a, b, xs, ys, ex, hqx, hqy, q⟩ := hh
  subst ex
  cases r1 with
  | cons r rr =>
    cases rr with
    | cons r' rr =>
      cases rr
      cases r
      cases r'
      obtain ⟨its, rv, p1, hz1⟩ := I1.tuple hqx
      obtain ⟨its2, rv2, p2', hz2⟩ := I1.tuple hqy
      obtain ⟨o1, ho1, _⟩ := id p1
      obtain ⟨o2, ho2, _⟩ := id p2'
      refine RZ.call_zipT (show s1.heap.IsTuple a its.toArray from p1) (show s1.heap.IsTuple b its2.toArray from p2') fun h' hz hTI hTO h1 h2 hsz hk => ?_
      refine Calls.spliced_nil ?_
      have D := PySem.W.ktu_apart s1.heap.objs.size a b (Heap.lt_size ho1) (Heap.lt_size ho2)
      have t1 : h'.IsTuple a its.toArray := let ⟨o, ho, r⟩ := p1; ⟨o, hk _ _ ho, r⟩
      have t2 : h'.IsTuple b its2.toArray := let ⟨o, ho, r⟩ := p2'; ⟨o, hk _ _ ho, r⟩
      have lx : its.length = xs.length := rv.length.symm
      have ly : its2.length = ys.length := rv2.length.symm
      refine zl_call (s := { s1 with heap := h' }) (n := min its.toArray.size its2.toArray.size) (I1.ok.hd hc) D rfl (by rw [List.size_toArray, List.size_toArray]; omega) hz hTI hTO h1 h2 t1 t2 fun h'' tk acc c as hk2 hS hl hG hacc => ?_
      dsimp only at hk2 hS hG ⊢
      have hkk : ∀ b o, s1.heap.get? b = some o → h''.get? b = some o := fun b o g => by
        have lt := Heap.lt_size g
        exact hk2 b o (ne_up 4 lt) (ne_up 3 lt) (Nat.ne_of_lt lt) (ne_up 1 lt) (hk b o g)
      have low : ∀ b o, s1.heap.get? b = some o → b ∉ as ∧ b ≠ h'.objs.size := fun b o g => ⟨fun z => no_up5 (Heap.lt_size g) hsz (hG.above b z), ne_up5 (Heap.lt_size g) hsz⟩
      have nd : as.Nodup := List.Pairwise.imp (fun {a b} (h : a < b) => Nat.ne_of_lt h) hG.rise
      have newA : ∀ t ∈ as, H1 t = none := fun t ht => I1.hok.fresh (le_up5 hsz (hG.above t ht))
      have newS : H1 h'.objs.size = none := I1.hok.fresh (by rw [hsz]; exact Nat.le_add_right _ _)
      have hSn : h'.objs.size ∉ as := fun z => Nat.lt_irrefl _ (hG.above _ z)
      have lps : as.length = (xs.zip ys).length := by
        rw [hl, List.length_zip, List.size_toArray, List.size_toArray, lx, ly]
      have atP := putP_at as (xs.zip ys) (upd H1 h'.objs.size (.lst (as.map V.ref))) lps nd
      have off : ∀ b, b ∉ as → b ≠ h'.objs.size → putP (upd H1 h'.objs.size (.lst (as.map V.ref))) as (xs.zip ys) b = H1 b := fun b g1 g2 => by rw [putP_off as _ _ g1, upd_ne g2]
      have kp : ∀ b u, H1 b = some u → (putP (upd H1 h'.objs.size (.lst (as.map V.ref))) as (xs.zip ys)) b = some u := fun b u g => by
        rw [off b (fun z => by rw [newA b z] at g; cases g) (fun z => by rw [z, newS] at g; cases g)]
        exact g
      have eS : putP (upd H1 h'.objs.size (.lst (as.map V.ref))) as (xs.zip ys) h'.objs.size = some (.lst (as.map V.ref)) := by rw [putP_off as _ _ hSn, upd_same]
      refine ⟨.ref h'.objs.size, putP (upd H1 h'.objs.size (.lst (as.map V.ref))) as (xs.zip ys), ?_, rfl, q _ _ as kp newS eS atP⟩
      refine I1.call' (s' := { s1 with heap := h'', toks := tk }) (ch := []) rfl ⟨fun b o q _ _ _ => hkk b o q, fun b o q _ _ _ => ⟨o.slots, hkk b o q⟩, fun b o q n _ => ?_, fun b o q _ => ⟨o, hkk b o q⟩, fun b xs q => kp b _ q, fun b o u q => kp b _ q, fun b ps q => ⟨#[], by rw [kp b _ q]; simp⟩⟩ (fun b u q => ?_) I1.bare fun b z => by simp at z
      · obtain ⟨z1, z2⟩ := low b o q
        rw [off b z1 z2]
        exact n
      · by_cases hb : b ∈ as
        · obtain ⟨j, pk, g1, g2, g3⟩ := LiI.paired_ix atP hb
          rw [g3] at q
          cases q
          obtain ⟨x, y, f1, f2, f3⟩ := hG.pairs j b g1
          have f1' : its[j]? = some x := by simpa using f1
          have f2' : its2[j]? = some y := by simpa using f2
          have hj : (xs.zip ys)[j]? = some pk := g2
          rw [List.getElem?_zip_eq_some] at hj
          obtain ⟨u1, w1, w2⟩ := rv.get hj.1
          obtain ⟨u2, w3, w4⟩ := rv2.get hj.2
          rw [f1'] at w1
          rw [f2'] at w3
          cases w1
          cases w3
          exact ⟨by show 2 ≤ sizeLine; decide, [x, y], .cons w2 (.cons w4 .nil), ⟨_, f3, rfl, _, rfl⟩⟩
        · by_cases hb2 : b = h'.objs.size
          · rw [hb2] at q ⊢
            rw [eS] at q
            cases q
            refine ⟨by rw [List.length_map, lps, List.length_zip]; omega, acc.toList, c, by rw [hacc]; exact LiI.vals_refs as, ?_⟩
            rw [Array.toArray_toList]
            exact hS
          · rw [off b hb hb2] at q
            exact (I1.hok b u q).stay (fun d v _ y => hkk d v y) (fun d y => kp d _ y) fun d xs y => kp d _ y
/-- .. over data -/
theorem we_listZip {K : PySem.W.Frag} {ds : EnvD} {M : Mm} {Q : Dv → Mm → Prop} {t : TA} (h : WA K t ds M fun zs M1 => ∃ xs ys, zs = [.tup xs, .tup ys] ∧ ∀ p M2, M1 p = none → M2 = mupd M1 p (.lst (zipD xs ys)) → Q (.adr p) M2) : WE K (tListZip K t) ds M Q := ⟨fun σ H hE hM R k =>
  h.run σ H hE hM _ fun vs H1 zs M1 e1 m1 a1 q1 => by
    obtain ⟨xs, ys, rfl, q1⟩ := q1
    cases a1 with
    | cons r a2 =>
      cases a2 with
      | cons r2 a3 =>
        cases a3
        cases r with
        | @tup a vs _ h1 h2 =>
          cases r2 with
          | @tup b ws _ h3 h4 =>
            refine ⟨a, b, vs, ws, rfl, h1, h3, fun H' p ts gr np hp hts => ?_⟩
            have e2 : ETx K H1 H' := .of gr
            refine k _ H' _ _ (e1.trans e2) ?_ (.adr p) (q1 p _ (m1.none np) rfl)
            intro c o hc
            by_cases z : c = p
            · subst z
              rw [mupd_same] at hc
              cases hc
              refine .ofL hp ?_
              have gen : ∀ {ts : List Addr} {vs ws : List V} {xs ys : List Dv}, DAts K H1 vs xs → DAts K H1 ws ys → Paired (fun (t : Addr) (q : V × V) => H' t = some (.tup [q.1, q.2])) ts (vs.zip ws) → DAts K H' (ts.map V.ref) (zipD xs ys) := by
                intro ts vs
                induction vs generalizing ts with
                | nil =>
                  intro ws xs ys d1 d2 hp
                  cases d1
                  cases hp
                  exact .nil
                | cons v vs ih =>
                  intro ws xs ys d1 d2 hp
                  cases d1 with
                  | cons r1 d1 =>
                    cases d2 with
                    | nil =>
                      cases hp
                      exact .nil
                    | cons r2 d2 =>
                      cases hp with
                      | cons g1 g2 => exact .cons (.tup (SqT.of g1) (.cons (r1.mono e2) (.cons (r2.mono e2) .nil))) (ih d1 d2 g2)
              exact gen h2 h4 hts
            · rw [mupd_ne z] at hc
              exact (m1 c o hc).keep e2 (gr c)⟩
end
end FS
set_option maxHeartbeats 4000000
/-! enumerate(a tuple), tuple(a dict), dict(a written dict). -/
namespace FS
open PySem PySem.Spec PyProof.Rows L2

/-! ### enumerate of a tuple -/
open AutoSeq1 (wpAny_loadPart') in
theorem meets_enumerate_newT (l : Addr) (items : Array Value) (n : Nat) (dct : Option Addr) (sl : Array (Option Value)) :
    Meets (Builtin.«enumerate.__new__» ⟨[.type "enumerate", .ref l], []⟩) (fun _ R s => s.heap.get? l = some { cls := .type "tuple", dict := dct, data := .seq items n, slots := sl } ∧
      R (.ok (.ret (.ref (s.heap.push { cls := .type "tuple_iterator", data := .fields #[.ref l, .int 0 0] }).objs.size)))
        { s with heap := (s.heap.push { cls := .type "tuple_iterator", data := .fields #[.ref l, .int 0 0] }).push { cls := .type "enumerate", data := .fields #[.none, .bool false, .ref s.heap.objs.size, rawInt 0, .none, .none] } }) :=
  .of_wp fun prog w A R s h => by
    obtain ⟨hp, g, d, tk, os⟩ := s; obtain ⟨hl, h⟩ := h
    have hsub := sub_enumerate
    have hL : Heap.IsTuple (Shared.heap ⟨hp, g, d, tk, os⟩) l items := ⟨_, hl, rfl, n, rfl⟩
    wp_walk using wpAny_loadPart' hl
    refine wpAny_stack_any fun st => wpAny_pure ?_
    split
    · rename_i c _ _ _ _ _
      cases (c == Value.type "enumerate")
      · wp_walk using wpAny_loadPart' hl, wpAny_pyIter_tuple hL
        exact ⟨_, rfl, h⟩
      · wp_walk using wpAny_loadPart' hl, wpAny_pyIter_tuple hL
        exact ⟨_, rfl, h⟩
    · wp_walk using wpAny_loadPart' hl, wpAny_pyIter_tuple hL
      exact ⟨_, rfl, h⟩
section
variable {prog : Program} {w : World} {A : Around} {E : Value → Shared → Prop} {s : Shared}
theorem call_enumerate_tup {l : Addr} {items : Array Value} {Q : Value → Shared → Prop} (hL : s.heap.IsTuple l items)
    (h : ∀ h', IsEnum h' (s.heap.objs.size + 1) s.heap.objs.size 0 .none → h'.IsTupleIter s.heap.objs.size l 0 → h'.objs.size = s.heap.objs.size + 2 →
      (∀ b o, s.heap.get? b = some o → h'.get? b = some o) → Q (.ref (s.heap.objs.size + 1)) { s with heap := h' }) :
    wpAny (model prog w) A (call (.type "enumerate") [.ref l]) Q E s := by
  obtain ⟨⟨c, dct, dt, sl⟩, hl, hc, n, hd⟩ := hL
  replace hc : c = .type "tuple" := hc
  replace hd : dt = .seq items n := hd
  subst hc hd
  refine callType_new F.called_enumerate (by decide) (F.typeCall_enumerate_1 _) (F.newCall_enumerate_1 _) (fun obj => F.args_object_init_2 obj _) F.entry_enumerate_new
    (meets_enumerate_newT l items n dct sl) ⟨hl, ?_⟩
  have hz : (s.heap.push { cls := .type "tuple_iterator", data := .fields #[.ref l, .int 0 0] }).objs.size = s.heap.objs.size + 1 := Heap.size_push ..
  show _ ∧ _
  rw [hz]
  have he : IsEnum ((s.heap.push { cls := .type "tuple_iterator", data := .fields #[.ref l, .int 0 0] }).push
      { cls := .type "enumerate", data := .fields #[.none, .bool false, .ref s.heap.objs.size, rawInt 0, .none, .none] }) (s.heap.objs.size + 1) s.heap.objs.size 0 .none := by
    have := Heap.get?_push_size (s.heap.push { cls := .type "tuple_iterator", data := .fields #[.ref l, .int 0 0] })
      (o := { cls := .type "enumerate", data := .fields #[.none, .bool false, .ref s.heap.objs.size, rawInt 0, .none, .none] }) rfl
    rw [hz] at this; exact this
  refine ⟨⟨_, he, rfl⟩, h _ he ⟨_, Heap.get?_push_of_some _ (Heap.get?_push_size _ rfl), rfl, rfl⟩ (by rw [Heap.size_push, hz]) fun b o x => Heap.get?_push_of_some _ (Heap.get?_push_of_some _ x)⟩
theorem pyNext_enumT_end {e it l : Addr} {k : Nat} {i : Int} {items : Array Value} {old : Value} {Q : Option Value → Shared → Prop} (hh : A.handled = none)
    (he : IsEnum s.heap e it i old) (hit : s.heap.IsTupleIter it l k) (hl : s.heap.IsTuple l items) (hx : items[k]? = none)
    (hQ : ∀ h', Heap.ExtBut it s.heap h' → Q none { s with heap := h' }) : wpAny (model prog w) A (pyNext (.ref e)) Q E s := by
  have hT : s.TypeIs (.ref e) "enumerate" := ⟨_, he, rfl⟩
  unfold pyNext
  refine wpAny_bind (wpAny_attempt (wpAny_callSpecial?_slot (name := Str.ofString "__next__") hT F.slot_enumerate_next
    (wpAny_call_entry F.slot_enumerate_next hT F.entry_enumerate_next ?_ (F.args_enumerate_next_1 _))))
  show wpAny _ _ (field (.ref e) 2 >>= _) _ _ _
  refine wpAny_bind (wpAny_field he rfl (x := .ref it) rfl ?_)
  refine wpAny_bind (RZ.nextOf_tuple_end (A := A.in1) hh hit hl hx fun h' x he' hx' => ?_)
  obtain ⟨o, ho, hc⟩ := hx'
  refine wpAny_bind (wpAny_isInstance (T := "StopIteration") (b := true) ⟨o, ho, hc⟩ isSubtype_stop ?_)
  exact wpAny_pure (hQ _ he')
end
def IteT (K : PySem.W.Frag) (a : Addr) : It :=
  ⟨fun i H => ∃ (xs : List V) (x : V), SqT K H a xs ∧ xs[i]? = some x, fun i H v H' => ∃ T x, v = .ref T ∧ H T = none ∧ H' = upd H T (.tup [.int (i : Nat), x]) ∧ ∀ xs, SqT K H a xs → xs[i]? = some x, fun i H => ∃ xs : List V, SqT K H a xs ∧ xs.length ≤ i⟩
theorem turn_enumT {P : Program} {w : World} {K : PySem.W.Frag} {elts : List Expr} {kk : Nat} {tpos : Pos} (a e it : Addr) (hae : a ≠ e) (hai : a ≠ it) :
    Turn P w K (.Tuple elts kk tpos) (IteT K a) [e, it] e (fun i h => (∃ old, IsEnum h e it ((i : Nat) : Int) old) ∧ h.IsTupleIter it a i ∧ e ≠ it) where
  mem := by simp
  obj := fun i h st b hb => by
    obtain ⟨⟨old, he⟩, ⟨o, ho, hc, hd⟩, _⟩ := st
    have e' : b = e ∨ b = it := by simpa using hb
    rcases e' with z | z
    · rw [z]; exact ⟨_, he, fun v q => nomatch q⟩
    · rw [z]; exact ⟨o, ho, fun v q => by rw [hd] at q; cases q⟩
  keep := fun i h h' st k => let ⟨⟨old, he⟩, hi, hne⟩ := st; ⟨⟨old, k e (by simp) _ he⟩, hi.at fun o q => k it (by simp) o q, hne⟩
  item := by
    intro X hP hw hK hc i pins s σ H E I hf st hg
    subst hP hw hK
    obtain ⟨⟨old, he⟩, hit, hne⟩ := st
    obtain ⟨xs, x, hq, hx⟩ := hg
    obtain ⟨its, rv, p, hz⟩ := I.tuple hq
    obtain ⟨u, hu, ru⟩ := rv.get hx
    have hel : e < s.heap.objs.size := Heap.lt_size he
    have hil : it < s.heap.objs.size := by obtain ⟨_, q, _⟩ := hit; exact Heap.lt_size q
    have ilt : i < its.toArray.size := by
      rw [List.size_toArray]
      exact (List.getElem?_eq_some_iff.mp hu).1
    refine wpAny_pyNext_enum_itemD (Draws.tuple (A := X.A.in1) (I.ok.hd hc) it a hai its.toArray) he ⟨hit, p⟩ ilt hne (by simp [hae.symm, hne]) fun y h' tk hy ho st' hT hsz hk => ?_
    have ey : y = u := by
      have h1 : its[i]? = some y := by simpa using hy
      rw [hu] at h1
      exact (Option.some.inj h1).symm
    subst ey
    refine ⟨_, rfl, wpAny_letOwnedTupleGo_enum (s := { s with heap := h', toks := tk + 1 }) ho fun h'' he' sb => ?_⟩
    have hT2 : h''.get? s.heap.objs.size = some { cls := .type "tuple", data := .seq #[.int i tk, y] } := (sb.2 _ (Nat.ne_of_gt hel)).trans hT
    have new : ObjOk X.prog X.w (upd H s.heap.objs.size (.tup [.int (i : Nat), x])) h'' s.heap.objs.size (.tup [.int (i : Nat), x]) :=
      ⟨by show 2 ≤ sizeLine; decide, [.int i tk, y], .cons ⟨_, rfl⟩ (.cons ru .nil), ⟨_, hT2, rfl, _, rfl⟩⟩
    have I1 : Inv X pins σ (upd H s.heap.objs.size (.tup [.int (i : Nat), x])) { s with heap := h'', toks := tk + 1 } :=
      I.turnedNew (ch := [e, it]) (fun b ob hb q => (sb.2 b (fun z => hb (by simp [z]))).trans (hk b ob (fun z => hb (by simp [z])) (fun z => hb (by simp [z])) q)) hf (Nat.le_refl _) new
    refine ⟨.ref s.heap.objs.size, _, I1, rfl, ⟨_, x, rfl, I.hok.fresh (Nat.le_refl _), rfl, fun ys hy => by rw [I.tuple_inj hy hq]; exact hx⟩, ⟨⟨y, ?_⟩, st'.1.at fun o q => (sb.2 it (Ne.symm hne)).trans q, hne⟩, fun b hb => ?_⟩
    · have e1 : ((i + 1 : Nat) : Int) = (i : Int) + 1 := by omega
      rw [e1]; exact he'
    · have hb' : b < s.heap.objs.size := by
        have e' : b = e ∨ b = it := by simpa using hb
        rcases e' with z | z
        · rw [z]; exact hel
        · rw [z]; exact hil
      rw [upd_ne (Nat.ne_of_lt hb')]
      exact (hf b hb).1
  done := by
    intro X hP hw hK hc i pins s σ H E I hf st hg
    subst hP hw hK
    obtain ⟨⟨old, he⟩, hit, hne⟩ := st
    obtain ⟨xs, hq, hx⟩ := hg
    obtain ⟨its, rv, p, hz⟩ := I.tuple hq
    obtain ⟨f0, f1, f2, f3, f4, f5⟩ := hf it (by simp)
    have hl := rv.length
    exact pyNext_enumT_end (I.ok.hd hc) he hit p (Array.getElem?_eq_none (by rw [List.size_toArray]; omega)) fun h' eb => ⟨rfl, I.turned (t' := s.toks) (fun b o hb q => eb b o hb q) f0 f1 f3 f4 f5⟩
  self := fun A i s Q E st h => let ⟨⟨_, he⟩, _⟩ := st; wpAny_pyIter_enum he h

def iEnumT (K : PySem.W.Frag) (ta : TA) : TI := fun σ H R => ta σ H fun vs H1 => ∃ a xs, vs = [.ref a] ∧ SqT K H1 a xs ∧ R (IteT K a) H1
theorem pi_enumK {X : Cx} {K : PySem.W.Frag} {e : Expr} {ta : TA} {p pos tpos : Pos} {elts : List Expr} {kk : Nat} (hK : X.K = K) (hg : Gl X "enumerate") (hm : X.mg "enumerate" = none) (ha : PA X [e] ta) (hs : starEach [e] X.env = [(false, eval e X.env)] := by rfl) :
    PI X (.Tuple elts kk tpos) (.Call (.Name "enumerate" p) [e] [] pos) (iEnumT K ta) := by
  subst hK
  refine ⟨fun pins s σ H R I h => ?_⟩
  refine Call_ (ld_blt I hg hm boot_enumerate (PyProof.Rows.callWith_type1 (thn (ha.run pos pins s σ H _ I h) fun us s1 ⟨vs, H1, I1, r1, q1⟩ => ?_) hs rfl))
  obtain ⟨a, xs, ex, hq, q⟩ := q1
  subst ex
  cases r1 with
  | cons r rr =>
    cases rr
    cases r
    obtain ⟨its, rv, p', hz⟩ := I1.tuple hq
    obtain ⟨oa, hoa, _⟩ := id p'
    have la := Heap.lt_size hoa
    refine call_enumerate_tup p' fun h' he hit hsz hk => wpAny_pyIter_enum he ?_
    have I2 : Inv X pins σ H1 { s1 with heap := h' } := I1.kept (t' := s1.toks) hk
    refine ⟨s1.heap.objs.size + 1, [s1.heap.objs.size + 1, s1.heap.objs.size], _, _, H1, rfl, I2, turn_enumT a (s1.heap.objs.size + 1) s1.heap.objs.size (ne_up 1 la) (Nat.ne_of_lt la), ⟨⟨.none, he⟩, hit, Nat.succ_ne_self _⟩, fun b hb => ?_, q⟩
    have e' : b = s1.heap.objs.size + 1 ∨ b = s1.heap.objs.size := by simpa using hb
    have hle : s1.heap.objs.size ≤ b := by
      rcases e' with z | z
      · rw [z]; exact Nat.le_add_right _ _
      · rw [z]; exact Nat.le_refl _
    exact I1.fpOk hle (I1.hok.fresh hle)
def enumD (xs : List Dv) : List Dv := xs.zipIdx.map fun p => Dv.tup [.int (p.2 : Int), p.1]
section
variable {K : PySem.W.Frag} {ds : EnvD} {M : Mm} {Q : Dv → Mm → Prop} {t : TA} {te ta : TE} {x : Dv} {D : DEnds}
theorem enumD_get {xs : List Dv} {i : Nat} {x : Dv} (h : xs[i]? = some x) : (enumD xs)[i]? = some (.tup [.int (i : Int), x]) := by
  unfold enumD
  rw [List.getElem?_map, List.getElem?_zipIdx, h]
  simp
theorem enumD_len (xs : List Dv) : (enumD xs).length = xs.length := by unfold enumD; simp
theorem yl_enum {a : Addr} {xs : List Dv} : Yl K (IteT K a) (fun H _ => ∃ vs, SqT K H a vs ∧ DAts K H vs xs) (enumD xs) := by
  refine ⟨fun i H M ⟨vs, h1, h2⟩ _ hi => ?_, fun H M ⟨vs, h1, h2⟩ _ => ⟨vs, h1, by rw [enumD_len]; exact Nat.le_of_eq h2.length⟩, fun i H M v H' ⟨vs, h1, h2⟩ _ hi y => ?_⟩
  · rw [enumD_len] at hi
    obtain ⟨v, e, _⟩ := h2.get (List.getElem?_eq_getElem hi)
    exact ⟨vs, v, h1, e⟩
  · obtain ⟨T, x, rfl, nT, rfl, f⟩ := y
    obtain ⟨xd, e, r⟩ := h2.get' (f vs h1)
    have ex : ETx K H (upd H T (.tup [.int (i : Nat), x])) := .new nT
    exact ⟨_, enumD_get e, fun a o h => by rw [upd_ne (ne_of_none h nT)]; exact h, .tup (SqT.of upd_same) (.cons (.int _) (.cons (r.mono ex) .nil))⟩
theorem wi_enum {Q : It → (Hp → Mm → Prop) → Mm → Prop} (h : WA K t ds M fun zs M1 => ∃ xs, zs = [.tup xs] ∧ ∀ a, Q (IteT K a) (fun H _ => ∃ vs, SqT K H a vs ∧ DAts K H vs xs) M1) : WI K (iEnumT K t) ds M Q := ⟨fun σ H hE hM R k =>
  h.run σ H hE hM _ fun vs H1 zs M1 e1 m1 a1 q1 => by
    obtain ⟨xs, rfl, q1⟩ := q1
    cases a1 with
    | cons r a2 =>
      cases a2
      cases r with
      | @tup a vs _ h1 h2 => exact ⟨a, vs, rfl, h1, k _ H1 _ M1 e1 m1 ⟨vs, h1, h2⟩ (q1 a)⟩⟩

/-! ### {k: v for ..}, the keys whole numbers -/
theorem intKeys_put {kvs : List (Key × Dv)} {i : Int} {v : Dv} (h : ∀ q ∈ kvs, ∃ j, q.1 = Sum.inl j) : ∀ q ∈ putD kvs (.inl i) v, ∃ j, q.1 = Sum.inl j := fun q hq => by
  unfold putD at hq
  split at hq
  · obtain ⟨w, hw, rfl⟩ := List.mem_map.mp hq
    obtain ⟨j, e⟩ := h w hw
    split
    · exact ⟨j, e⟩
    · exact ⟨j, e⟩
  · rcases List.mem_append.mp hq with hq | hq
    · exact h q hq
    · rw [List.mem_singleton.mp hq]
      exact ⟨i, rfl⟩
theorem putD_len {kvs : List (Key × Dv)} {k : Key} {v : Dv} : (putD kvs k v).length ≤ kvs.length + 1 := by
  unfold putD
  split
  · rw [List.length_map]
    exact Nat.le_succ _
  · rw [List.length_append]
    exact Nat.le_refl _
def dcFold {α : Type} (key : α → Int) (out : α → Dv) (ps : List α) : List (Key × Dv) := ps.foldl (fun kvs p => putD kvs (.inl (key p)) (out p)) []
theorem dcFold_keys {α : Type} {key : α → Int} {out : α → Dv} (ps : List α) : ∀ q ∈ dcFold key out ps, ∃ j, q.1 = Sum.inl j := by
  have gen : ∀ (ps : List α) (kvs : List (Key × Dv)), (∀ q ∈ kvs, ∃ j, q.1 = Sum.inl j) → ∀ q ∈ ps.foldl (fun kvs p => putD kvs (.inl (key p)) (out p)) kvs, ∃ j, q.1 = Sum.inl j := by
    intro ps
    induction ps with
    | nil => intro kvs h; exact h
    | cons p ps ih => intro kvs h; exact ih _ (intKeys_put h)
  exact gen ps [] (fun q hq => by cases hq)
theorem dcFold_len {α : Type} {key : α → Int} {out : α → Dv} (ps : List α) : (dcFold key out ps).length ≤ ps.length := by
  have gen : ∀ (ps : List α) (kvs : List (Key × Dv)), (ps.foldl (fun kvs p => putD kvs (.inl (key p)) (out p)) kvs).length ≤ kvs.length + ps.length := by
    intro ps
    induction ps with
    | nil => intro kvs; exact Nat.le_refl _
    | cons p ps ih =>
      intro kvs
      have h1 := ih (putD kvs (.inl (key p)) (out p))
      have h2 := putD_len (kvs := kvs) (k := .inl (key p)) (v := out p)
      rw [List.foldl_cons, List.length_cons]
      omega
  have h := gen ps []
  simpa [dcFold] using h
theorem dcFold_snoc {α : Type} {key : α → Int} {out : α → Dv} (ps : List α) (p : α) : dcFold key out (ps ++ [p]) = putD (dcFold key out ps) (.inl (key p)) (out p) := by
  unfold dcFold
  rw [List.foldl_append]
  rfl
theorem not_coreK {vs : List (Key × V)} {H : Hp} {kvs : List (Key × Dv)} (h2 : Paired (fun (p : Key × V) (q : Key × Dv) => p.1 = q.1 ∧ DAt K H p.2 q.2) vs kvs) (hk : ∀ q ∈ kvs, ∃ j, q.1 = Sum.inl j) : ¬ CoreKV K vs coreTab := not_core (ints_keys h2 hk)
theorem we_dc {α : Type} {wi : TI} {g : TG} {tk tv : TE} {vs : List Nat} (h : WI K wi ds M fun J Kp M1 => ∃ (ps : List α) (en : α → Dv) (key : α → Int) (out : α → Dv), Yl K J Kp (ps.map en) ∧ Keeps K Kp MEx ∧ ps.length ≤ 1000000 ∧
    (∀ p ∈ ps, ∀ M2, MEx M1 M2 → ∃ ds2, WGC K g vs (en p) ds ds2 ∧ WE K tk ds2 M2 fun y M3 => MEx M2 M3 ∧ y = .int (key p) ∧ WE K tv ds2 M3 fun z M4 => MEx M2 M4 ∧ z = out p) ∧
    (∀ q M2, M1 q = none → MEx M1 M2 → M2 q = some (.dct (dcFold key out ps)) → Q (.adr q) M2)) : WE K (tDc wi g tYes tk tv vs) ds M Q := ⟨fun σ H hE hM R k =>
  h.run σ H hE hM _ fun J H1 Kp M1 e1 m1 kp q1 => by
    obtain ⟨ps, en, key, out, Y, hk, hl, hs, hd⟩ := q1
    intro D hD
    have nD := m1.none hD
    have eD : ETx K H1 (upd H1 D (.dK [])) := .new hD
    have len : (ps.map en).length = ps.length := List.length_map _
    refine ⟨fun i m H' => m = ps.length - i ∧ i ≤ ps.length ∧ ∃ M', ETx K H1 H' ∧ MAt K H' M' ∧ MEx M1 M' ∧ M' D = some (.dct (dcFold key out (ps.take i))),
      ⟨ps.length, by simp, Nat.zero_le _, mupd M1 D (.dct []), eD, m1.put eD (.ofD upd_same .nil (not_core fun p hp => by cases hp)), MEx.new nD, mupd_same⟩, ?_⟩
    rintro i m H' ⟨rfl, hi, M', e, hM', mx, hDi⟩
    have kp' : Kp H' M' := hk H1 H' M1 M' kp e mx
    by_cases lt : i < ps.length
    · refine .inr ⟨Y.go i H' M' kp' hM' (by rw [len]; exact lt), fun H2 => ∃ M2, ETx K H1 H2 ∧ MAt K H2 M2 ∧ MEx M1 M2 ∧ M2 D = some (.dct (dcFold key out (ps.take (i + 1)))), fun H2 z => ⟨ps.length - (i + 1), by omega, rfl, lt, z⟩, fun v H2 y => ?_⟩
      obtain ⟨x, ex, gr, a⟩ := Y.yld i H' M' v H2 kp' hM' (by rw [len]; exact lt) y
      have ei : ps[i]? = some ps[i] := List.getElem?_eq_getElem lt
      rw [List.getElem?_map, ei] at ex
      have ex : some (en ps[i]) = some x := ex
      cases ex
      have e2 : ETx K H' H2 := .of gr
      have tk' : ps.take (i + 1) = ps.take i ++ [ps[i]] := by rw [List.take_add_one, ei]; rfl
      obtain ⟨ds2, hg, ht⟩ := hs ps[i] (List.getElem_mem lt) M' mx
      have m2 : MAt K H2 M' := hM'.grow gr
      refine hg.run v σ H2 a (((hE.mono e1).mono (e.trans e2)).wipe vs) _ fun σ2 w hE2 => ⟨w, ?_⟩
      refine (wt_yes (K := K) (ds := ds2) (M := M') (QT := fun b M3 => b = true ∧ M3 = M') ⟨rfl, rfl⟩).run σ2 H2 hE2 m2 _ fun b H2b M2b e2b m2b q2b => ?_
      obtain ⟨rfl, rfl⟩ := q2b
      refine iteT ?_
      refine ht.run σ2 H2b (hE2.mono e2b) m2b _ fun y H3 yd M3 e3 m3 a3 q3 => ?_
      obtain ⟨mx3, rfl, q3⟩ := q3
      cases a3
      refine q3.run σ2 H3 ((hE2.mono e2b).mono e3) m3 _ fun z H4 zd M4 e4 m4 a4 q4 => ?_
      obtain ⟨mx4, rfl⟩ := q4
      obtain ⟨acc, h1, h2, h3⟩ := m4 D _ (mx4 _ _ hDi)
      have hlen : acc.length = (dcFold key out (ps.take i)).length := Paired.length h2
      have hl2 := dcFold_len (key := key) (out := out) (ps.take i)
      rw [List.length_take] at hl2
      refine ⟨acc, .inl (key ps[i]), rfl, h1, Nat.lt_of_le_of_lt (show acc.length ≤ 1000000 by omega) (by decide), ?_⟩
      have e5 : ETx K H4 (upd H4 D (.dK (putK acc (.inl (key ps[i])) z))) := .dct h1 h3
      have r := put_rel (k := .inl (key ps[i])) h2 a4
      have r' : Paired (fun (p : Key × V) (q : Key × Dv) => p.1 = q.1 ∧ DAt K (upd H4 D (.dK (putK acc (.inl (key ps[i])) z))) p.2 q.2) (putK acc (.inl (key ps[i])) z) (putD (dcFold key out (ps.take i)) (.inl (key ps[i])) (out ps[i])) := paired_mono (fun a b z => ⟨z.1, z.2.mono e5⟩) r
      refine ⟨mupd M4 D (.dct (dcFold key out (ps.take (i + 1)))), ((((e.trans e2).trans e2b).trans e3).trans e4).trans e5, m4.put e5 (.ofD upd_same (by rw [tk', dcFold_snoc]; exact r') (not_coreK r (intKeys_put (dcFold_keys _)))), fun b o hb' => ?_, mupd_same⟩
      have nb : b ≠ D := fun z => by
        rw [z, nD] at hb'
        cases hb'
      rw [mupd_ne nb]
      exact mx4 _ _ (mx _ _ hb')
    · have ei : i = ps.length := by omega
      subst ei
      refine .inl ⟨by rw [← len]; exact Y.stop H' M' kp' hM', ?_⟩
      rw [List.take_of_length_le (Nat.le_refl _)] at hDi
      exact k _ H' _ M' (e1.trans e) hM' (.adr D) (hd D M' nD mx hDi)⟩

/-! ### a dict's keys as a tuple; the empty dict; sorted -/
def rTupD : List V → Hp → VK → Prop := fun xs H Q => ∃ p kvs, xs = [.ref p] ∧ H p = some (.dK kvs) ∧ ∀ q, H q = none → Q (.ref q) (upd H q (.tup (kvs.map fun kv => kV kv.1)))
theorem call_tuple_dict {prog : Program} {w : World} {A : Around} {E : Value → Shared → Prop} {s : Shared} {T : String} {r d : Addr} {n : Nat} {P : Nat → Value → Prop} {OK : Heap → Prop} {Q : Value → Shared → Prop}
    (KS : PySem.W.KdlSrc prog w T r d n P OK) (hT : s.TypeIs (.ref r) "dict") (hh : A.handled = none) (hok : OK s.heap) (hn : n ≤ sizeLine)
    (hQ : ∀ (h' : Heap) (tk : Nat) (acc : Array Value), (∀ b o, s.heap.get? b = some o → h'.get? b = some o) → ItemsOf P acc n → Q (.ref h'.objs.size) { s with heap := h'.push { cls := .type "tuple", data := .seq acc }, toks := tk }) :
    wpAny (model prog w) A (call (.type "tuple") [.ref r]) Q E s := by
  refine callType_codes (Q₁ := fun obj s₁ => s₁.TypeIs obj "tuple" ∧ Q obj s₁) PySem.F.called_tuple (PySem.F.typeCall_tuple_1 _) PySem.F.entry_object_init ?_ fun obj s₁ h₁ => ?_
  · refine codeAny_of_tree ?_
    show wpAny _ A.in1.in1 (do checkBuiltinCall "tuple.__new__" ⟨[.type "tuple", .ref r], []⟩; again (.builtin "tuple.__new__" ⟨[.type "tuple", .ref r], []⟩)) _ _ s
    refine wpAny_bind (wpAny_of_eq (PySem.F.newCall_tuple_1 _) (wpAny_pure ⟨plainId_quiet PySem.F.plain_tuple_new _, codeAny_builtin PySem.F.entry_tuple_new ?_⟩))
    rw [Around.under_plainId PySem.F.plain_tuple_new _]
    have hsub := sub_tuple_self
    have hinit := init_tuple_lookup
    have hmh := madeHere_tuple
    have hh1 : A.in1.in1.handled = none := hh
    wp_walk using wpAny_typeOf hT, PySem.W.kdu_collect (A := A.in1.in1) KS hh1 hok hn
    intro h' tk acc hk hacc
    show wpAny _ _ (Builtin.Tuple.tupleExact acc.toList.toArray >>= fun v => ret v) _ _ _
    unfold Builtin.Tuple.tupleExact
    refine wpAny_bind (wpAny_newObj_type ?_ (by show acc.toList.toArray.size ≤ sizeLine; simp only [Array.toArray_toList]; rw [hacc.1]; exact hn))
    refine wpAny_pure ?_
    have e : acc.toList.toArray = acc := by simp
    rw [e]
    exact ⟨⟨_, Heap.get?_push_size _ rfl, rfl⟩, hQ h' tk acc hk hacc⟩
  · exact ⟨h₁.1, PySem.F.args_object_init_2 obj _, object_init_meets PySem.F.called_tuple.init.lookup PySem.F.called_tuple.made (by decide) prog w A.in1 _ s₁ ⟨h₁.1, rfl, h₁.2⟩⟩
theorem cr_tupD {X : Cx} (hc : X.calm = true) : CallR X (.type "tuple") rTupD := by
  intro pins s σ H xs us Q I r h
  obtain ⟨p, kvs, e, hk, q⟩ := h
  subst e
  obtain ⟨u, eu, rx⟩ := vals1 r
  subst eu
  obtain rfl : u = Value.ref p := rx
  obtain ⟨z, lo, vs, rk, hd⟩ := (show ObjOk X.prog X.w H s.heap p (.dK kvs) from I.hok p _ hk)
  obtain ⟨ep, hat⟩ := hd.dictAt
  have hl : kvs.length = vs.length := Paired.length rk
  refine call_tuple_dict (PySem.W.kdl_dict (knd := mixKind X.prog X.w) (kvs := vs) (ep := ep) lo) hd.typeIs (I.ok.hd hc) hat (by rw [← hl]; exact z) fun h' tk acc hkeep hacc => ?_
  have I1 : Inv X pins σ H { s with heap := h', toks := tk } := I.kept hkeep
  refine ⟨.ref h'.objs.size, upd H h'.objs.size (.tup (kvs.map fun kv => kV kv.1)), I1.laid (t' := tk) (fun b o e => Heap.get?_push_of_some _ e) (Nat.le_refl _) (show ObjOk X.prog X.w _ _ _ (.tup (kvs.map fun kv => kV kv.1)) from ⟨?_, acc.toList, ?_, ?_⟩), rfl, q _ (I1.hok.fresh (Nat.le_refl _))⟩
  · rw [List.length_map]; exact z
  · have el : acc.toList.length = acc.size := by simp
    refine vals_of_at (by rw [List.length_map, el, hacc.1, hl]) fun j x w h1 h2 => ?_
    obtain ⟨k, y, hky, hi⟩ := hacc.2 j w (by rw [← Array.getElem?_toList]; exact h2)
    have e1 : (kvs.map (·.1))[j]? = some k := by
      rw [KV.keys rk, List.getElem?_map, hky] <;> rfl
    have e2 : (kvs.map fun kv => kV kv.1)[j]? = some (kV k) := by
      have e3 : (kvs.map fun kv => kV kv.1) = (kvs.map (·.1)).map kV := by rw [List.map_map] <;> rfl
      rw [e3, List.getElem?_map, e1] <;> rfl
    rw [e2] at h1
    cases h1
    exact keyIs_rel hi
  · rw [Array.toArray_toList]
    exact IsTup.new _ _
end
end FS
set_option maxHeartbeats 4000000
/-! What the program computes, on terms, as plain functions; more rules over terms. -/
namespace FS
open PySem PySem.Spec PyProof.Rows L2
namespace Tm
def cl : Nat → Tm → Bool
  | d, name k => decide (k < d)
  | d, u1 w a => a.cl (d + w.b)
  | d, u2 _ a b => a.cl d && b.cl d
  | d, u3 a b c => a.cl d && b.cl d && c.cl d
  | _, _ => true
def mapP (f : Nat → Tm → Tm) : Tm → Tm
  | u1 w a => u1 w (f w.b a)
  | u2 w a b => u2 w (f 0 a) (f 0 b)
  | u3 a b c => u3 (f 0 a) (f 0 b) (f 0 c)
  | t => t
def putIn (gs : List Tm) : Nat → Tm → Tm
  | d, name k => if k < d then name k else match gs[k - d]? with
    | some g => g
    | none => name (k - gs.length)
  | d, u1 w a => u1 w (a.putIn gs (d + w.b))
  | d, u2 w a b => u2 w (a.putIn gs d) (b.putIn gs d)
  | d, u3 a b c => u3 (a.putIn gs d) (b.putIn gs d) (c.putIn gs d)
  | _, num n => num n
  | _, .at k => .at k
def renum (ks : List Nat) : Tm → Tm
  | .at k => .at (ks.idxOf k)
  | u1 w a => u1 w (a.renum ks)
  | u2 w a b => u2 w (a.renum ks) (b.renum ks)
  | u3 a b c => u3 (a.renum ks) (b.renum ks) (c.renum ks)
  | num n => num n
  | name k => name k
def addAt (ks : List Nat) (k : Nat) : List Nat := if k ∈ ks then ks else ks ++ [k]
def atsF : Tm → List Nat → List Nat
  | .at k, ks => addAt ks k
  | u1 _ a, ks => a.atsF ks
  | u2 _ a b, ks => b.atsF (a.atsF ks)
  | u3 a b c, ks => c.atsF (b.atsF (a.atsF ks))
  | num _, ks => ks
  | name _, ks => ks
/-- k is a box's number in the term -/
def has : Tm → Nat → Bool
  | .at j, k => decide (j = k)
  | u1 _ a, k => a.has k
  | u2 _ a b, k => a.has k || b.has k
  | u3 a b c, k => a.has k || b.has k || c.has k
  | _, _ => false
def isVal : Tm → Bool
  | u2 .pair a b => a.isVal && b.isVal
  | num _ => true
  | .at _ => true
  | u1 .fn _ => true
  | u1 .again _ => true
  | _ => false
def partAt : Tm → List Nat → Option Tm
  | t, [] => some t
  | t, i :: is => (t.parts[i]?).bind fun p => p.partAt is
def setP : Tm → Nat → Tm → Tm
  | u1 w _, 0, x => u1 w x
  | u2 w _ b, 0, x => u2 w x b
  | u2 w a _, 1, x => u2 w a x
  | u3 _ b c, 0, x => u3 x b c
  | u3 a _ c, 1, x => u3 a x c
  | u3 a b _, 2, x => u3 a b x
  | t, _, _ => t
def repl : Tm → List Nat → Tm → Tm
  | _, [], r => r
  | t, i :: is, r => match t.parts[i]? with
    | some p => t.setP i (p.repl is r)
    | none => t
/-- numbers in their range, names below d, boxes below m -/
def wf (m : Nat) : Nat → Tm → Bool
  | _, num n => decide (-999999999 ≤ n ∧ n ≤ 999999999)
  | d, name k => decide (k < d)
  | _, .at k => decide (k < m)
  | d, u1 w a => a.wf m (d + w.b)
  | d, u2 _ a b => a.wf m d && b.wf m d
  | d, u3 a b c => a.wf m d && b.wf m d && c.wf m d
def zipPB (t : Tm) : List (Tm × Nat) := t.parts.zip t.binds
theorem cl_zip {t : Tm} {d : Nat} (h : t.cl d = true) : ∀ p ∈ t.zipPB, p.1.cl (d + p.2) = true := by
  cases t <;> simp_all [cl, zipPB, parts, binds]
theorem putIn_use {t : Tm} (h : t.isUse = true) {gs : List Tm} {d : Nat} : t.putIn gs d = t.mapP fun b p => p.putIn gs (d + b) := by
  cases t <;> first | rfl | cases h
theorem renum_use {t : Tm} (h : t.isUse = true) {ks : List Nat} : t.renum ks = t.mapP fun _ p => p.renum ks := by
  cases t <;> first | rfl | cases h
theorem atsF_use {t : Tm} (h : t.isUse = true) {ks : List Nat} : t.atsF ks = t.parts.foldl (fun ks p => p.atsF ks) ks := by
  cases t <;> first | rfl | cases h
theorem mapP_id (t : Tm) : t.mapP (fun _ p => p) = t := by cases t <;> rfl
theorem enc_mapP {t : Tm} (h : t.isUse = true) {f : Nat → Tm → Tm} : (t.mapP f).enc = .tup (.str t.word :: t.zipPB.map fun p => (f p.2 p.1).enc) := by
  cases t <;> first | rfl | cases h
theorem enc_mapP1 {t : Tm} (h : t.isUse = true) {f : Tm → Tm} : (t.mapP fun _ => f).enc = .tup (.str t.word :: t.parts.map fun p => (f p).enc) := by
  cases t <;> first | rfl | cases h
theorem zip_dep {t : Tm} {p : Tm × Nat} (h : p ∈ t.zipPB) : p.1.dep + 1 ≤ t.dep := dep_part (List.of_mem_zip h).1
theorem len_pos (t : Tm) : 1 ≤ t.len := by cases t <;> simp [len] <;> omega
theorem wf_part {m d : Nat} {t : Tm} (h : t.wf m d = true) : ∀ p ∈ t.zipPB, p.1.wf m (d + p.2) = true := by
  cases t <;> simp_all [wf, zipPB, parts, binds]
end Tm
/-! ### words -/
theorem w1_ne (w : W1) : decide (w.s = "number") = false ∧ decide (w.s = "name") = false ∧ decide (w.s = "at") = false ∧ decide (w.s = "hole") = false := by cases w <;> decide +kernel
theorem w2_ne (w : W2) : decide (w.s = "number") = false ∧ decide (w.s = "name") = false ∧ decide (w.s = "at") = false ∧ decide (w.s = "hole") = false := by cases w <;> decide +kernel
theorem use_ne {t : Tm} (h : t.isUse = true) : decide (t.word = "number") = false ∧ decide (t.word = "name") = false ∧ decide (t.word = "at") = false ∧ decide (t.word = "hole") = false := by
  cases t with
  | u1 w a => exact w1_ne w
  | u2 w a b => exact w2_ne w
  | u3 a b c => exact (by decide +kernel : decide (("test" : Str) = "number") = false ∧ decide (("test" : Str) = "name") = false ∧ decide (("test" : Str) = "at") = false ∧ decide (("test" : Str) = "hole") = false)
  | _ => cases h
theorem use_num {t : Tm} (h : t.isUse = true) : decide (t.word = "number") = false := (use_ne h).1
theorem use_name {t : Tm} (h : t.isUse = true) : decide (t.word = "name") = false := (use_ne h).2.1
theorem use_at {t : Tm} (h : t.isUse = true) : decide (t.word = "at") = false := (use_ne h).2.2.1
theorem use_hole {t : Tm} (h : t.isUse = true) : decide (t.word = "hole") = false := (use_ne h).2.2.2
/-- a word stands in a list of words -/
theorem inD_words {z : Str} {zs : List Str} : inD (.str z) (zs.map .str) = zs.any fun y => decide (z = y) := by
  induction zs with
  | nil => rfl
  | cons y ys ih =>
    rw [List.map_cons, List.any_cons, ← ih]
    unfold inD inV
    rw [List.map_cons, List.any_cons]
    congr 1
    show decide _ = decide _
    exact decide_eq_decide.mpr ⟨fun h => h.symm, fun h => h.symm⟩

theorem len_and {xs : List Dv} {A : Prop} (h : xs.length ≤ 1000000) (a : A) : xs.length ≤ 1000000 ∧ A := ⟨h, a⟩
/-! ### the pairs of parts and of names bound -/
def pbD (p : Tm × Nat) : Dv := .tup [p.1.enc, .int (p.2 : Int)]
theorem zipD_pb (t : Tm) : zipD (t.parts.map Tm.enc) ((t.binds.map fun n => ((n : Nat) : Int)).map .int) = t.zipPB.map pbD := by cases t <;> rfl
theorem zipPB_3 (t : Tm) : t.zipPB.length ≤ 3 := by cases t <;> (simp [Tm.parts, Tm.binds, Tm.zipPB])
theorem parts_3 (t : Tm) : t.parts.length ≤ 3 := by cases t <;> (simp [Tm.parts])
/-- (term[0], *parts) -/
theorem mk_pb {t : Tm} (h : t.isUse = true) {f : Nat → Tm → Tm} {P : List Dv → Prop} (hp : ∀ xs, xs.length ≤ 1000000 → Dv.tup xs = (t.mapP f).enc → P xs) : P (.str t.word :: (t.zipPB.map (fun p => (f p.2 p.1).enc) ++ [])) := by
  refine hp _ (by have := zipPB_3 t; simp; omega) ?_
  rw [Tm.enc_mapP h, List.append_nil]
theorem mk_p {t : Tm} (h : t.isUse = true) {f : Tm → Tm} {P : List Dv → Prop} (hp : ∀ xs, xs.length ≤ 1000000 → Dv.tup xs = (t.mapP fun _ => f).enc → P xs) : P (.str t.word :: (t.parts.map (fun p => (f p).enc) ++ [])) := by
  refine hp _ (by have := parts_3 t; simp; omega) ?_
  rw [Tm.enc_mapP1 h, List.append_nil]
theorem zipPB_small (t : Tm) : t.zipPB.length ≤ 1000000 := by cases t <;> (simp [Tm.parts, Tm.binds, Tm.zipPB])
section
variable {K : PySem.W.Frag} {ds : EnvD} {M : Mm} {D : DEnds} {Q : Dv → Mm → Prop} {te : TE} {ta : TA} {x y z : Dv} {i j l : Nat} {ts : TS}
theorem keeps_lstX {p : Addr} {xs : List Dv} : Keeps K (fun _ M => M p = some (.lst xs)) MEx := fun H H' M M' h _ s => s _ _ h
theorem WI.mono {wi : TI} {Q Q' : It → (Hp → Mm → Prop) → Mm → Prop} (h : WI K wi ds M Q) (f : ∀ J Kp M1, Q J Kp M1 → Q' J Kp M1) : WI K wi ds M Q' := ⟨fun σ H hE hM R k => h.run σ H hE hM R fun J H' Kp M' e m kp q => k J H' Kp M' e m kp (f _ _ _ q)⟩
theorem WA.mono {Q Q' : List Dv → Mm → Prop} (h : WA K ta ds M Q) (f : ∀ xs M1, Q xs M1 → Q' xs M1) : WA K ta ds M Q' := ⟨fun σ H hE hM R k => h.run σ H hE hM R fun vs H' xs M' e m a q => k vs H' xs M' e m a (f _ _ q)⟩
theorem we_lcPBw {wi : TI} {t : Tm} {vs : List Nat} (out : Tm × Nat → Dv) (hv : vs = [i, j]) (h : WI K wi ds M fun J Kp M1 => MEx M M1 ∧ Yl K J Kp (t.zipPB.map pbD) ∧ Keeps K Kp MEx)
    (hs : ∀ p ∈ t.zipPB, ∀ M2, MEx M M2 → WE K te (((wipeD ds [i, j]).set i (some p.1.enc)).set j (some (.int (p.2 : Int)))) M2 fun y M4 => MEx M2 M4 ∧ y = out p)
    (hd : ∀ q M2, MEx M M2 → M2 q = some (.lst (t.zipPB.map out)) → Q (.adr q) M2) : WE K (tLc wi (gTup K 2 (gCons (gName i) (gCons (gName j) gNil))) tYes te vs) ds M Q := by
  subst hv
  refine we_lc (α := Tm × Nat) (WI.mono h fun J Kp M1 q => ?_)
  obtain ⟨mx, Y, hk⟩ := q
  refine ⟨t.zipPB, pbD, fun _ => true, out, Y, hk, zipPB_small t, fun p hp M2 hM => ⟨_, wgc_pair (by simp) (by simp), wt_yes ⟨.refl, rfl, fun _ => hs p hp M2 (mx.trans hM)⟩⟩, fun q M2 _ hM hq => ?_⟩
  rw [filter_all] at hq
  exact hd q M2 (mx.trans hM) hq
/-- [.. for part, many in parts_with_names(..)] -/
theorem we_lcPB {te0 : TE} {t : Tm} {vs : List Nat} (out : Tm × Nat → Dv) (hv : vs = [i, j]) (h : WE K te0 ds M fun x M1 => ∃ p, x = .adr p ∧ M1 p = some (.lst (t.zipPB.map pbD)) ∧ MEx M M1)
    (hs : ∀ p ∈ t.zipPB, ∀ M2, MEx M M2 → WE K te (((wipeD ds [i, j]).set i (some p.1.enc)).set j (some (.int (p.2 : Int)))) M2 fun y M4 => MEx M2 M4 ∧ y = out p)
    (hd : ∀ q M2, MEx M M2 → M2 q = some (.lst (t.zipPB.map out)) → Q (.adr q) M2) : WE K (tLc (iList K te0) (gTup K 2 (gCons (gName i) (gCons (gName j) gNil))) tYes te vs) ds M Q :=
  we_lcPBw out hv (wi_lst (h.mono fun x M1 q => by
    obtain ⟨p, rfl, hp, mx⟩ := q
    exact ⟨p, _, rfl, hp, mx, yl_lst, keeps_lstX⟩)) hs hd
/-- [.. for part, many in zip(.., ..)] -/
theorem we_lcPBz {t : Tm} {vs : List Nat} (out : Tm × Nat → Dv) (hv : vs = [i, j]) (h : WA K ta ds M fun xs M1 => xs = [.tup (t.parts.map Tm.enc), .tup ((t.binds.map fun n => ((n : Nat) : Int)).map .int)] ∧ MEx M M1)
    (hs : ∀ p ∈ t.zipPB, ∀ M2, MEx M M2 → WE K te (((wipeD ds [i, j]).set i (some p.1.enc)).set j (some (.int (p.2 : Int)))) M2 fun y M4 => MEx M2 M4 ∧ y = out p)
    (hd : ∀ q M2, MEx M M2 → M2 q = some (.lst (t.zipPB.map out)) → Q (.adr q) M2) : WE K (tLc (RZ.iZipA K ta) (gTup K 2 (gCons (gName i) (gCons (gName j) gNil))) tYes te vs) ds M Q :=
  we_lcPBw out hv (wi_zip (h.mono fun xs M1 q => by
    obtain ⟨rfl, mx⟩ := q
    exact ⟨_, _, rfl, fun a b => ⟨mx, by rw [← zipD_pb]; exact yl_zip, keeps_zip⟩⟩)) hs hd
/-- for part in t[1:] -/
theorem ws_forParts {t : Tm} {z : Dv} (Pv : Nat → EnvD → Mm → Prop) (hx : ds[i]? = some (some (.tup (z :: t.parts.map Tm.enc)))) (h0 : Pv 0 ds M)
    (hs : ∀ n p ds' M', t.parts[n]? = some p → Pv n ds' M' → WS K ts (ds'.set j (some p.enc)) M' { nx := Pv (n + 1), ct := Pv (n + 1), bk := D.nx, rt := D.rt })
    (hd : ∀ ds' M', Pv t.parts.length ds' M' → D.nx ds' M') : WS K (tFor (iTup K (tSl (rSlA K) (tVar i) (tPart (tC (.int 1))) tNoPart)) (gName j) ts) ds M D := by
  refine ws_for (wi_parts hx fun a => ⟨t.parts.map Tm.enc, yl_tup, fun _ _ => True, Pv, keeps_tup, fun _ _ _ _ => True.intro, h0, fun n x ds' M' hx' hp => wg_name ?_, fun ds' M' hp => hd ds' M' (by rw [List.length_map] at hp; exact hp)⟩)
  rw [List.getElem?_map] at hx'
  cases e : t.parts[n]? with
  | none =>
    rw [e] at hx'
    cases hx'
  | some p =>
    rw [e] at hx'
    cases hx'
    exact hs n p ds' M' e hp
/-- for part, many in parts_with_names(..) -/
theorem ws_forPB {te0 : TE} {t : Tm} (Pv : Mm → Nat → EnvD → Mm → Prop) (h : WE K te0 ds M fun x M1 => ∃ p, x = .adr p ∧ M1 p = some (.lst (t.zipPB.map pbD)) ∧ Pv M1 0 ds M1 ∧ (∀ n ds' M', Pv M1 n ds' M' → MEx M1 M'))
    (hs : ∀ M1 n p ds' M', t.zipPB[n]? = some p → Pv M1 n ds' M' → WS K ts ((ds'.set i (some p.1.enc)).set j (some (.int (p.2 : Int)))) M' { nx := Pv M1 (n + 1), ct := Pv M1 (n + 1), bk := D.nx, rt := D.rt })
    (hd : ∀ M1 ds' M', Pv M1 t.zipPB.length ds' M' → D.nx ds' M') : WS K (tFor (iList K te0) (gTup K 2 (gCons (gName i) (gCons (gName j) gNil))) ts) ds M D := by
  refine ws_for (wi_lst (h.mono fun x M1 q => ?_))
  obtain ⟨p, rfl, hp, h0, hk⟩ := q
  refine ⟨p, _, rfl, hp, t.zipPB.map pbD, yl_lst, MEx, Pv M1, keeps_lstX, fun n ds' M' hp' => hk n ds' M' hp', h0, fun n x ds' M' hx' hp' => ?_, fun ds' M' hp' => hd M1 ds' M' (by rw [List.length_map] at hp'; exact hp')⟩
  rw [List.getElem?_map] at hx'
  cases e : t.zipPB[n]? with
  | none =>
    rw [e] at hx'
    cases hx'
  | some p =>
    rw [e] at hx'
    cases hx'
    exact wg_tup rfl (wgs_cons (wg_name (wgs_cons (wg_name (wgs_nil (hs M1 n p ds' M' e hp'))))))
end

/-! ### defs: the end of a descent, a weaker promise -/
section
variable {P : Program} {w : World} {K : PySem.W.Frag} {mg : Str → Option Value} {base : Heap}
theorem cal_zero {x : Str} {st : Stmt} {ps : List Str} {k : Nat} {S : SpD} {dvs : List V} (D : DefAt K mg x st dvs)
    (bd : ∀ f fd, FnP K x st dvs f fd → ∃ ds, Binds K fd ps ds ∧ Vals dvs ds)
    (no : ∀ xs M Q, ¬ S xs M Q) : Cal P w K mg base k x S dvs := by
  obtain ⟨f, fd, F, hm⟩ := D.ex
  obtain ⟨ds, b, v⟩ := bd f fd F
  exact ⟨f, fd, ps, ds, ⟨fun vs H Q E h => by
    obtain ⟨xs, M, Q', _, _, h3, _⟩ := h
    exact (no _ _ _ h3).elim, fun A outer s H args us vs Q E hr he hb hv hs => by
    obtain ⟨xs, M, Q', _, _, h3, _⟩ := hs
    exact (no _ _ _ h3).elim⟩, hm, F.kp, b, v⟩
/-- a def with one default: called with and without the last value -/
structure CalD (P : Program) (w : World) (K : PySem.W.Frag) (mg : Str → Option Value) (base : Heap) (k : Nat) (x : Str) (S : SpD) (dv : V) : Prop where
  all : Cal P w K mg base k x S []
  dft : Cal P w K mg base k x S [dv]
theorem CalD.mono {j k : Nat} {x : Str} {S : SpD} {dv : V} (c : CalD P w K mg base j x S dv) (h : j ≤ k) : CalD P w K mg base k x S dv := ⟨c.all.mono h, c.dft.mono h⟩
theorem cal_zeroN {x : Str} {st : Stmt} {ps : List Str} {k : Nat} {S : SpD} (D : DefAt K mg x st [])
    (b : ∀ (kV doc pm : Value) (an : Option Addr) (cdv ct : Value) (us : List Value), us.length = ps.length → bindArgs (PySem.W.fnOf x x (defArgs st) (defBody st) (defScope st) .none kV doc pm an cdv ct) ⟨us, []⟩ = pure (ps.zip us))
    (no : ∀ xs M Q, ¬ S xs M Q) : Cal P w K mg base k x S [] := cal_zero (ps := ps) D (fun f fd F => ⟨[], F.bindsN b, .nil⟩) no
abbrev BdD (x : Str) (st : Stmt) (ps : List Str) (n j : Nat) : Prop := ∀ (T : Addr) (kV doc pm : Value) (an : Option Addr) (cdv ct : Value) (us its : List Value), us.length = n → its.length = 1 →
      ∃ k, bindArgs (PySem.W.fnOf x x (defArgs st) (defBody st) (defScope st) (.ref T) kV doc pm an cdv ct) ⟨us, []⟩ = seqItems? (.ref T) >>= k ∧ k (some its.toArray) = pure (ps.zip (us ++ its.drop j))
theorem binds_dft {x : Str} {st : Stmt} {ps : List Str} {dv : V} {n : Nat} (hn : n + 1 = ps.length) (b0 : BdD x st ps (n + 1) 1) (b1 : BdD x st ps n 0) {f : Addr} {fd : FuncData} (F : FnP K x st [dv] f fd) : (∃ ds, Binds K fd ps ds ∧ Vals [] ds) ∧ ∃ ds, Binds K fd ps ds ∧ Vals [dv] ds := by
  obtain ⟨ds, v, b⟩ := F.binds1 (n + 1) 1 (by simp) (by simpa using hn) b0
  obtain ⟨ds', v', b'⟩ := F.binds1 n 0 (by simp) (by simpa using hn) b1
  exact ⟨⟨ds, b, v⟩, ds', b', v'⟩
theorem cal_zeroD {x : Str} {st : Stmt} {ps : List Str} {k n : Nat} {S : SpD} {dv : V} (D : DefAt K mg x st [dv]) (hn : n + 1 = ps.length) (b0 : BdD x st ps (n + 1) 1) (b1 : BdD x st ps n 0)
    (no : ∀ xs M Q, ¬ S xs M Q) : CalD P w K mg base k x S dv :=
  ⟨by
    obtain ⟨f, fd, F, hm⟩ := D.ex
    obtain ⟨⟨ds, b, v⟩, _⟩ := binds_dft hn b0 b1 F
    exact ⟨f, fd, ps, ds, ⟨fun vs H Q E h => by
      obtain ⟨xs, M, Q', _, _, h3, _⟩ := h
      exact (no _ _ _ h3).elim, fun A outer s H args us vs Q E hr he hb hv hs => by
      obtain ⟨xs, M, Q', _, _, h3, _⟩ := hs
      exact (no _ _ _ h3).elim⟩, hm, F.kp, b, v⟩, cal_zero D (fun f fd F => (binds_dft hn b0 b1 F).2) no⟩
theorem cal_mkD {x : Str} {st : Stmt} {N ps : List Str} {k n : Nat} {S : SpD} {dv : V} (D : DefAt K mg x st [dv]) (hn : n + 1 = ps.length) (b0 : BdD x st ps (n + 1) 1) (b1 : BdD x st ps n 0)
    (sc : FnScope N ps (defScope st)) (len : ∀ xs M Q, S xs M Q → xs.length = ps.length)
    (body : ∀ (f : Addr) (cdv : Value) (A : Around) (outer : List Env) (s : Shared) (H : Hp) (E : XK), Room k (A.deeper (envOfC x (defScope st) s.heap.objs.size f cdv)) →
      ∃ t, PSs (cxOf CX0 P w K mg base N x (defScope st) f cdv A outer s H E).nox (defBody st) t ∧ ∀ xs M Q, S xs M Q → WS K t (startD N xs) M (.fn Q)) : CalD P w K mg base (k + 1) x S dv := by
  obtain ⟨f, fd, F, hm⟩ := D.ex
  obtain ⟨⟨ds, b, v⟩, ds', b', v'⟩ := binds_dft hn b0 b1 F
  exact ⟨⟨f, fd, ps, ds, fn_data F sc len (body f), hm, F.kp, b, v⟩, f, fd, ps, ds', fn_data F sc len (body f), hm, F.kp, b', v'⟩
theorem Cal.imp {x : Str} {k : Nat} {S S' : SpD} {dvs : List V} (c : Cal P w K mg base k x S dvs) (h : ∀ xs M Q, S' xs M Q → S xs M Q) : Cal P w K mg base k x S' dvs := by
  obtain ⟨f, fd, ps, ds, F, hm, r⟩ := c.ex
  exact ⟨f, fd, ps, ds, F.imp fun vs H Q E q => by
    obtain ⟨xs, M, Q', h1, h2, h3, h4⟩ := q
    exact ⟨xs, M, Q', h1, h2, h _ _ _ h3, h4⟩, hm, r⟩
end
end FS
set_option maxHeartbeats 4000000
/-! == and != of data. -/
namespace FS
open PySem PySem.Spec PyProof.Rows L2
mutual
def pyD : Dv → PyData
  | .bl b => .bool b
  | .int i => .int i
  | .str z => .str z
  | .tup xs => .tuple (pyDs xs)
  | _ => .none
def pyDs : List Dv → List PyData
  | [] => []
  | x :: xs => pyD x :: pyDs xs
end
mutual
def okD : Dv → Bool
  | .non => true
  | .bl _ => true
  | .int _ => true
  | .str z => PyData.canLay0 (.str z)
  | .tup xs => okDs xs
  | _ => false
def okDs : List Dv → Bool
  | [] => true
  | x :: xs => okD x && okDs xs
end
mutual
def depD : Dv → Nat
  | .tup xs => depDs xs + 1
  | _ => 0
def depDs : List Dv → Nat
  | [] => 0
  | x :: xs => max (depD x) (depDs xs)
end
section
variable {K : PySem.W.Frag} {H : Hp} {M : Mm} {Q : Dv → Mm → Prop} {x y : Dv}
mutual
theorem dp_of : ∀ {d : Dv} {v : V}, DAt K H v d → okD d = true → Dp K H v (pyD d)
  | .non, _, h, _ => by
    cases h
    exact .non
  | .bl b, _, h, _ => by
    cases h
    exact .bl b
  | .int i, _, h, _ => by
    cases h
    exact .int i
  | .str z, _, h, _ => by
    cases h
    exact .str z
  | .tup xs, _, h, o => by
    cases h with
    | tup h1 h2 => exact .tup h1 (dps_of h2 o)
  | .adr _, _, _, o => by cases o
  | .ty _, _, _, o => by cases o
  | .core, _, _, o => by cases o
  | .frl _, _, _, o => by cases o
theorem dps_of : ∀ {ds : List Dv} {vs : List V}, DAts K H vs ds → okDs ds = true → DpAll K H vs (pyDs ds)
  | [], _, h, _ => by
    cases h
    exact .nil
  | d :: ds, _, h, o => by
    cases h with
    | cons h1 h2 =>
      have o' : (okD d && okDs ds) = true := o
      rw [Bool.and_eq_true] at o'
      exact .cons (dp_of h1 o'.1) (dps_of h2 o'.2)
end
mutual
theorem lay_of : ∀ {d : Dv}, okD d = true → (pyD d).canLay0 = true ∧ (pyD d).depth = depD d
  | .non, _ => ⟨rfl, rfl⟩
  | .bl _, _ => ⟨rfl, rfl⟩
  | .int _, _ => ⟨rfl, rfl⟩
  | .str _, o => ⟨o, rfl⟩
  | .tup xs, o => by
    obtain ⟨h1, h2⟩ := lays_of (ds := xs) o
    exact ⟨by simpa [pyD, PyData.canLay0] using h1, by simpa [pyD, PyData.depth, depD] using h2⟩
theorem lays_of : ∀ {ds : List Dv}, okDs ds = true → PyData.canLayAll0 (pyDs ds) = true ∧ PyData.depthAll (pyDs ds) = depDs ds
  | [], _ => ⟨rfl, rfl⟩
  | d :: ds, o => by
    have o' : (okD d && okDs ds) = true := o
    rw [Bool.and_eq_true] at o'
    obtain ⟨h1, h2⟩ := lay_of o'.1
    obtain ⟨h3, h4⟩ := lays_of o'.2
    exact ⟨by simp [pyDs, PyData.canLayAll0, h1, h3], by simp [pyDs, PyData.depthAll, depDs, h2, h4]⟩
end
theorem shaped_of {d : Dv} (o : okD d = true) (h : depD d ≤ 64) : SeqAt.shaped (pyD d) = true := by
  obtain ⟨h1, h2⟩ := lay_of o
  unfold SeqAt.shaped
  rw [h1, h2, decide_eq_true h]
  rfl
theorem rv_eqD (ox : okD x = true) (oy : okD y = true) (hx : depD x ≤ 64) (hy : depD y ≤ 64) (q : Q (.bl (PyData.eqv (pyD x) (pyD y))) M) : RV K (rEqD K) x y M Q := ⟨fun v w H a b hM R k =>
  ⟨_, _, dp_of a ox, dp_of b oy, shaped_of ox hx, shaped_of oy hy, k _ H _ M .refl hM (.bl _) q⟩⟩
theorem rv_neD (ox : okD x = true) (oy : okD y = true) (hx : depD x ≤ 64) (hy : depD y ≤ 64) (q : Q (.bl (!PyData.eqv (pyD x) (pyD y))) M) : RV K (rNeD K) x y M Q := ⟨fun v w H a b hM R k =>
  ⟨_, _, dp_of a ox, dp_of b oy, shaped_of ox hx, shaped_of oy hy, k _ H _ M .refl hM (.bl _) q⟩⟩
theorem okDs_ints (ns : List Int) : okDs (ns.map .int) = true := by
  induction ns with
  | nil => rfl
  | cons n ns ih => simpa [okDs, okD] using ih
theorem depDs_ints (ns : List Int) : depDs (ns.map .int) = 0 := by
  induction ns with
  | nil => rfl
  | cons n ns ih => simpa [depDs, depD] using ih
/-- place == () -/
theorem rv_eqT0 {ns : List Int} (q : Q (.bl ns.isEmpty) M) : RV K (rEqD K) (.tup (ns.map .int)) (.tup []) M Q := by
  refine rv_eqD (okDs_ints ns) rfl (by simp [depD, depDs_ints]) (by simp [depD, depDs]) ?_
  have e : PyData.eqv (pyD (.tup (ns.map .int))) (pyD (.tup [])) = ns.isEmpty := by cases ns <;> simp [pyD, pyDs, PyData.eqv, PyData.eqvAll]
  rw [e]
  exact q
/-- the same on both sides -/
theorem rv_neSelf (ox : okD x = true) (hx : depD x ≤ 64) (q : Q (.bl false) M) : RV K (rNeD K) x x M Q := by
  refine rv_neD ox ox hx hx ?_
  rw [SeqAt.eqv_refl _ (lay_of ox).1]
  exact q
/-- some != [] -/
theorem rv_neL0 {ns : List Int} {p r : Addr} (hp : M p = some (.lst (ns.map .int))) (hr : M r = some (.lst [])) (q : Q (.bl (!ns.isEmpty)) M) : RV K (rNeD K) (.adr p) (.adr r) M Q := ⟨fun v w H a b hM R k => by
  cases a
  cases b
  obtain ⟨vs, h1, h2⟩ := hM p _ hp
  obtain ⟨ws, h3, h4⟩ := hM r _ hr
  cases h4
  have o := lays_of (okDs_ints ns)
  have e : PyData.eqv (.list (pyDs (ns.map .int))) (.list []) = ns.isEmpty := by cases ns <;> simp [pyDs, PyData.eqv, PyData.eqvAll]
  refine ⟨.list (pyDs (ns.map .int)), .list [], .lst (SqL.of h1) (dps_of h2 (okDs_ints ns)), .lst (SqL.of h3) .nil, ?_, rfl, ?_⟩
  · unfold SeqAt.shaped
    have h5 : (PyData.list (pyDs (ns.map .int))).canLay0 = true := by simpa [PyData.canLay0] using o.1
    have h6 : (PyData.list (pyDs (ns.map .int))).depth ≤ 64 := by
      rw [PyData.depth, o.2, depDs_ints]
      decide
    rw [h5, decide_eq_true h6]
    rfl
  · rw [e]
    exact k _ H _ M .refl hM (.bl _) q⟩
end
section
variable {X : Cx} {K : PySem.W.Frag}
theorem op_eqDK (h : X.K = K) (hu : X.A.units + 64 < cLine) : OpR X (compareOp .Eq) (rEqD K) := by subst h; exact op_eqD hu
theorem op_neDK (h : X.K = K) (hu : X.A.units + 64 < cLine) : OpR X (compareOp .NotEq) (rNeD K) := by subst h; exact op_neD hu
end
end FS
set_option maxHeartbeats 4000000
/-! {}, tuple(dict), sorted(dict), dict(the dict of the core words). -/
namespace FS
open PySem PySem.Spec PyProof.Rows L2
/-- the written dict of the core words -/
def CoreW (K : PySem.W.Frag) (w : World) (d : Addr) : Prop := ∃ es n, KDict K w d es n ∧ Paired (fun (e : DictEntry) (q : Str × List Int) => (∃ t, e.key = .str q.1 t) ∧ ∃ a, e.val = .ref a ∧ KTup K a (q.2.map .int)) es.toList coreTab
def rDictCore (K : PySem.W.Frag) (w : World) : List V → Hp → VK → Prop := fun xs H Q => ∃ d, xs = [.ref d] ∧ CoreW K w d ∧ ∀ p kvs, H p = none → CoreKV K kvs coreTab → Q (.ref p) (upd H p (.dK kvs))
theorem core_make {P : Program} {w : World} {K : PySem.W.Frag} : ∀ {es : List DictEntry} {tab : List (Str × List Int)}, Paired (fun (e : DictEntry) (q : Str × List Int) => (∃ t, e.key = .str q.1 t) ∧ ∃ a, e.val = .ref a ∧ KTup K a (q.2.map .int)) es tab →
    ∃ (us : List (Key × Value)) (kvs : List (Key × V)), Pairs (mixKind P w) es us ∧ KV kvs us ∧ CoreKV K kvs tab ∧ us.map (·.1) = tab.map fun q => Sum.inr q.1
  | _, _, .nil => ⟨[], [], .nil, .nil, .nil, rfl⟩
  | e :: _, q :: _, .cons ⟨⟨t, h1⟩, a, h2, h3⟩ r => by
    obtain ⟨us, kvs, g1, g2, g3, g4⟩ := core_make (P := P) (w := w) r
    refine ⟨(.inr q.1, .ref a) :: us, (.inr q.1, .ref a) :: kvs, .cons ?_ h2 g1, .cons ⟨rfl, rfl⟩ g2, .cons ⟨rfl, a, rfl, h3⟩ g3, by rw [List.map_cons, List.map_cons, g4]⟩
    rw [h1]
    show Value.isStrOf q.1 (.str q.1 t) = true
    simp [Value.isStrOf]
theorem coreTab_nodup : (coreTab.map fun q => (Sum.inr q.1 : Key)).Nodup := by decide +kernel
theorem cr_dictCore {X : Cx} {K : PySem.W.Frag} {w : World} (hK : X.K = K) (hw : X.w = w) : CallR X (.type "dict") (rDictCore K w) := by
  subst hK
  subst hw
  intro pins s σ H xs us Q I r h
  obtain ⟨d, e, ⟨es, n, D, hp⟩, q⟩ := h
  subst e
  obtain ⟨u, eu, rx⟩ := vals1 r
  subst eu
  obtain rfl : u = Value.ref d := rx
  obtain ⟨more, kvs, g1, g2, g3, g4⟩ := core_make (P := X.prog) (w := X.w) hp
  have hd : s.heap.DictOf (mixKind X.prog X.w) d more := by
    refine ⟨_, es, n, I.kIn _ _ D.at_, ⟨rfl, rfl, rfl⟩, rfl, fun e he => ?_, g1, by rw [g4]; exact coreTab_nodup⟩
    obtain ⟨x, t, e1, e2⟩ := D.lit.all e (Array.mem_toList_iff.mpr he)
    refine ⟨.inr x, ?_, e2⟩
    rw [e1]
    show Value.isStrOf x (.str x t) = true
    simp [Value.isStrOf]
  have hlen : kvs.length = more.length := Paired.length g2
  have hlm : more.length = 14 := by
    have := congrArg List.length g4
    simpa [coreTab] using this
  refine kt_call_dict D.low hd (by rw [hlm]; decide) fun h' hm hs => ?_
  have keep : ∀ b o, s.heap.get? b = some o → h'.get? b = some o := fun b o e => by
    have ne : b ≠ s.heap.objs.size := Nat.ne_of_lt (Heap.lt_size e)
    rw [hs.2 b ne]
    exact Heap.get?_push_of_some _ e
  refine ⟨.ref s.heap.objs.size, upd H s.heap.objs.size (.dK kvs), I.laid (t' := s.toks) keep (Nat.le_refl _) (show ObjOk X.prog X.w _ _ _ (.dK kvs) from ⟨by rw [hlen, hlm]; decide, beq_eq_false_iff_ne.mpr (Ne.symm (Nat.ne_of_lt I.big)), more, g2, hm⟩), rfl, q _ kvs (I.hok.fresh (Nat.le_refl _)) g3⟩
section
variable {K : PySem.W.Frag} {ds : EnvD} {M : Mm} {Q : Dv → Mm → Prop} {w : World}
theorem core_notnew {H : Hp} {p : Addr} {o : HO} (h : H p = none) : ETx K H (upd H p o) := .new h
/-- dict(CORE) -/
theorem rl_dictCore {d : Addr} (h : CoreW K w d) (q : Q .core M) : RL K (rDictCore K w) [.adr d] M Q := .one fun v H a hM R k => by
  cases a
  refine ⟨d, rfl, h, fun p kvs hp hc => ?_⟩
  have e : ETx K H (upd H p (.dK kvs)) := .new hp
  exact k _ _ _ M e (hM.grow fun a o w => by rw [upd_ne (ne_of_none w hp)]; exact w) (.core upd_same hc) q
theorem we_dnew (q : ∀ p, M p = none → Q (.adr p) (mupd M p (.dct []))) : WE K tDNewK ds M Q := ⟨fun σ H hE hM R k p hp => by
  have e : ETx K H (upd H p (.dK [])) := .new hp
  exact k _ _ _ _ e (hM.put e (.ofD upd_same .nil (not_core fun p hp => by cases hp))) (.adr p) (q p (hM.none hp))⟩
theorem keysR {H : Hp} : ∀ {vs : List (Key × V)} {kvs : List (Key × Dv)}, Paired (fun (p : Key × V) (q : Key × Dv) => p.1 = q.1 ∧ DAt K H p.2 q.2) vs kvs → DAts K H (vs.map fun kv => kV kv.1) (kvs.map fun kv => keyD kv.1)
  | _, _, .nil => .nil
  | a :: _, b :: _, .cons h t => by
    refine .cons ?_ (keysR t)
    show DAt K H (kV a.1) (keyD b.1)
    rw [h.1]
    cases b.1 with
    | inl i => exact .int i
    | inr z => exact .str z
theorem rl_tupD {p : Addr} {kvs : List (Key × Dv)} (hp : M p = some (.dct kvs)) (q : Q (.tup (kvs.map fun kv => keyD kv.1)) M) : RL K rTupD [.adr p] M Q := .one fun v H a hM R k => by
  cases a
  obtain ⟨vs, h1, h2, h3⟩ := hM p _ hp
  refine ⟨p, vs, rfl, h1, fun z hz => ?_⟩
  have e : ETx K H (upd H z (.tup (vs.map fun kv => kV kv.1))) := .new hz
  exact k _ _ _ M e (hM.grow fun a o w => by rw [upd_ne (ne_of_none w hz)]; exact w) (.tup (SqT.of upd_same) ((keysR h2).mono e)) q
abbrev rSortD : List V → Hp → VK → Prop := fun xs H Q => ∃ (a : Addr) (kvs : List (Key × V)) (ks : List Int), xs = [.ref a] ∧ Rd H a (.dK kvs) ∧ kvs.map (·.1) = ks.map Sum.inl ∧ ks.length < 64 ∧
    ∀ (ys : List Int) (p : Addr), ys.Perm ks → ys.Pairwise (· ≤ ·) → H p = none → Q (.ref p) (upd H p (.lst (ys.map V.int)))
/-- sorted of the empty dict -/
theorem rl_sortD0 {p : Addr} (hp : M p = some (.dct [])) (q : ∀ r, M r = none → Q (.adr r) (mupd M r (.lst []))) : RL K rSortD [.adr p] M Q := .one fun v H a hM R k => by
  cases a
  obtain ⟨vs, h1, h2, h3⟩ := hM p _ hp
  cases h2
  refine ⟨p, [], [], rfl, .inl h1, rfl, by decide, fun ys z hy _ hz => ?_⟩
  have hy' : ys = [] := hy.eq_nil
  subst hy'
  have e : ETx K H (upd H z (.lst [])) := .new hz
  exact k _ _ _ _ e (hM.put e (.ofL upd_same .nil)) (.adr z) (q z (hM.none hz))
end
end FS
set_option maxHeartbeats 4000000
/-! More rules: not in the core words, -, **, isinstance, lists that are changed; the written dicts. -/
namespace FS
open PySem PySem.Spec PyProof.Rows L2
/-- what is looked at: the written dict -/
def lookTab : List (Str × List Int) := [("call", [0, 1]), ("pair", [0, 1]), ("plus", [0, 1]), ("minus", [0, 1]), ("times", [0, 1]), ("put", [0, 1]), ("first", [0]), ("second", [0]), ("box", [0]), ("look", [0]), ("say", [0]), ("test", [0])]
def LookW (K : PySem.W.Frag) (w : World) (d : Addr) : Prop := ∀ z ns, lookTab.lookup z = some ns → ∃ a, KDct K w d z (.ref a) ∧ KTup K a (ns.map .int)
/-- the written dicts -/
structure GlbW (K : PySem.W.Frag) (w : World) (mg : Str → Option Value) : Prop where
  k_CORE : ∃ d, mg "CORE" = some (.ref d) ∧ CoreW K w d
  k_LOOK : ∃ d, mg "LOOKED_AT" = some (.ref d) ∧ LookW K w d
theorem MEx.putNew {M M' : Mm} {p : Addr} {o : DObj} (h : MEx M M') (np : M p = none) : MEx M (mupd M' p o) := fun a u e => by
  have ne : a ≠ p := fun z => by
    rw [z, np] at e
    cases e
  rw [mupd_ne ne]
  exact h a u e
section
variable {K : PySem.W.Frag} {ds : EnvD} {M : Mm} {Q : Dv → Mm → Prop} {te td ty : TE} {x y : Dv} {w : World}
theorem valV_none {vs : List (Key × V)} : ∀ {tab : List (Str × List Int)} {z : Str}, CoreKV K vs tab → tab.lookup z = none → valV vs (.inr z) = none := by
  intro tab z h e
  induction h with
  | nil => rfl
  | @cons a b l m h1 t ih =>
    obtain ⟨b1, b2⟩ := b
    by_cases w : z = b1
    · subst w
      simp at e
    · have : (z == b1) = false := by simpa using w
      rw [List.lookup_cons, this] at e
      rw [valV_neg (fun g => ?_), ih e]
      rw [h1.1] at g
      exact w (Sum.inr.inj g).symm
/-- z not in words -/
theorem we_niCore (h : WE K ty ds M fun n M1 => WE K td ds M1 fun o M2 => ∃ z, o = .core ∧ n = .str z ∧ Q (.bl (!(coreTab.lookup z).isSome)) M2) : WE K (tDNotIn ty td) ds M Q := ⟨fun σ H hE hM R k =>
  h.run σ H hE hM _ fun n H2 nd M2 e2 m2 a2 q2 => q2.run σ H2 (hE.mono e2) m2 _ fun o H3 od M3 e3 m3 a3 q3 => by
    obtain ⟨z, rfl, rfl, q⟩ := q3
    cases a2
    cases a3 with
    | @core a vs h1 h2 =>
      refine ⟨_, _, rfl, DGet.k (k := .inr z) h1, ?_⟩
      cases e : coreTab.lookup z with
      | none =>
        rw [valV_none h2 e]
        rw [e] at q
        exact k _ H3 _ M3 (e2.trans e3) m3 (.bl _) q
      | some ns =>
        obtain ⟨p, g1, g2⟩ := core_val (H := H3) h2 e
        rw [g1]
        rw [e] at q
        exact k _ H3 _ M3 (e2.trans e3) m3 (.bl _) q⟩
theorem ru_neg {n : Int} (q : Q (.int (-n)) M) : RU K (rU fun i => .int (-i)) (.int n) M Q := ⟨fun v H a hM R k => by
  cases a
  exact ⟨n, rfl, k _ H _ M .refl hM (.int _) q⟩⟩
theorem rv_pow {a b : Int} (c : CPow a b) (q : Q (.int (a ^ b.toNat)) M) : RV K (rI CPow fun i j => .int (i ^ j.toNat)) (.int a) (.int b) M Q := rv_I (g' := fun i j => .int (i ^ j.toNat)) (fun H => .int _) c q
theorem rl_isi_tt {xs : List Dv} (q : Q (.bl true) M) : RL K (rIsi K) [.tup xs, .ty "tuple"] M Q := rl_isi (by show kitB "tuple" "tuple" = some true; decide +kernel) rfl q
theorem rl_isi_ss {z : Str} (q : Q (.bl true) M) : RL K (rIsi K) [.str z, .ty "str"] M Q := rl_isi (by show kitB "str" "str" = some true; decide +kernel) rfl q
theorem rl_isi_ii {i : Int} (q : Q (.bl true) M) : RL K (rIsi K) [.int i, .ty "int"] M Q := rl_isi (by show kitB "int" "int" = some true; decide +kernel) rfl q
theorem rl_isi_ib {i : Int} (q : Q (.bl false) M) : RL K (rIsi K) [.int i, .ty "bool"] M Q := rl_isi (by show kitB "int" "bool" = some false; decide +kernel) rfl q
theorem rl_isi_it {i : Int} (q : Q (.bl false) M) : RL K (rIsi K) [.int i, .ty "tuple"] M Q := rl_isi (by show kitB "int" "tuple" = some false; decide +kernel) rfl q
theorem rl_isi_is {i : Int} (q : Q (.bl false) M) : RL K (rIsi K) [.int i, .ty "str"] M Q := rl_isi (by show kitB "int" "str" = some false; decide +kernel) rfl q
theorem rl_isi_st {z : Str} (q : Q (.bl false) M) : RL K (rIsi K) [.str z, .ty "tuple"] M Q := rl_isi (by show kitB "str" "tuple" = some false; decide +kernel) rfl q
theorem rl_isi_sb {z : Str} (q : Q (.bl false) M) : RL K (rIsi K) [.str z, .ty "bool"] M Q := rl_isi (by show kitB "str" "bool" = some false; decide +kernel) rfl q
theorem rl_isi_bt {b : Bool} (q : Q (.bl false) M) : RL K (rIsi K) [.bl b, .ty "tuple"] M Q := rl_isi (by show kitB "bool" "tuple" = some false; decide +kernel) rfl q
theorem rl_isi_bb {b : Bool} (q : Q (.bl true) M) : RL K (rIsi K) [.bl b, .ty "bool"] M Q := rl_isi (by show kitB "bool" "bool" = some true; decide +kernel) rfl q
/-- LOOKED_AT[z] -/
theorem rv_look {d : Addr} {z : Str} {ns : List Int} (h : LookW K w d) (e : lookTab.lookup z = some ns) (q : Q (.tup (ns.map .int)) M) : RV K (rIxD K w) (.adr d) (.str z) M Q := ⟨fun v u H a b hM R k => by
  cases a
  cases b
  obtain ⟨a, h1, h2⟩ := h z ns e
  have intsR : ∀ l : List Int, DAts K H (l.map V.int) (l.map Dv.int) := fun l => by
    induction l with
    | nil => exact .nil
    | cons n l ih => exact .cons (.int n) ih
  exact ⟨_, _, _, rfl, rfl, h1, k _ H _ M .refl hM (.tup (h2 H) (intsR ns)) q⟩⟩
end
end FS
set_option maxHeartbeats 4000000
namespace FS
open PySem PySem.Spec PyProof.Rows L2
local macro_rules | `(tactic| walk_at "t") => `(tactic| exact use_hole (by assumption))
local macro_rules | `(tactic| walk_at "t") => `(tactic| exact use_at (by assumption))
local macro_rules | `(tactic| walk_at "t") => `(tactic| exact use_name (by assumption))
local macro_rules | `(tactic| walk_at "t") => `(tactic| exact use_num (by assumption))
local macro_rules | `(tactic| walk_at "t") => `(tactic| exact leaf_leaves (by assumption))
local macro_rules | `(tactic| walk_at "t") => `(tactic| exact use_leaves (by assumption))
local macro_rules | `(tactic| walk_at "t") => `(tactic| assumption)
local macro_rules | `(tactic| walk_at "t") => `(tactic| decide +kernel)
local macro_rules | `(tactic| walk_at "t") => `(tactic| rfl)
local macro_rules | `(tactic| walk_at "d1") => `(tactic| ((with_reducible refine rv_fdiv ?h1 ?_); (case h1 => exact ⟨by decide, by decide⟩)))
local macro_rules | `(tactic| walk_at "d1") => `(tactic| ((with_reducible refine rv_mod ?h1 ?_); (case h1 => (show (0 : Int) < _; decide))))
local macro_rules | `(tactic| walk_at "d1") => `(tactic| (with_reducible refine we_call (dxs := [.int 0]) (fun H => .cons (.int 0) .nil) ?_))
local macro_rules | `(tactic| walk_at "d1") => `(tactic| ((with_reducible refine' we_c ?h1 ?_); (case h1 => assumption)))
local macro_rules | `(tactic| walk_at "d1") => `(tactic| (with_reducible refine wt_yes ?_))
local macro_rules | `(tactic| walk_at "d1") => `(tactic| (with_reducible refine wg_name ?_))
local macro_rules | `(tactic| walk_at "d1") => `(tactic| (with_reducible refine rv_ix3 ?_))
local macro_rules | `(tactic| walk_at "d1") => `(tactic| (with_reducible refine rv_ix2 ?_))
local macro_rules | `(tactic| walk_at "d1") => `(tactic| (with_reducible refine rv_notN ?_))
local macro_rules | `(tactic| walk_at "d1") => `(tactic| (with_reducible refine rv_isN ?_))
local macro_rules | `(tactic| walk_at "d1") => `(tactic| (with_reducible refine rv_neS ?_))
local macro_rules | `(tactic| walk_at "d1") => `(tactic| (with_reducible refine rv_ge ?_))
local macro_rules | `(tactic| walk_at "d1") => `(tactic| (with_reducible refine rv_gt ?_))
local macro_rules | `(tactic| walk_at "d1") => `(tactic| (with_reducible refine rv_le ?_))
local macro_rules | `(tactic| walk_at "d1") => `(tactic| (with_reducible refine rv_sub ?_))
local macro_rules | `(tactic| walk_at "d1") => `(tactic| (with_reducible refine wo_some ?_))
local macro_rules | `(tactic| walk_at "d1") => `(tactic| (with_reducible refine wo_none ?_))
local macro_rules | `(tactic| walk_at "d1") => `(tactic| (with_reducible refine we_then ?_))
local macro_rules | `(tactic| walk_at "d1") => `(tactic| (with_reducible refine we_un ?_))
local macro_rules | `(tactic| walk_at "d1") => `(tactic| (with_reducible refine we_chain ?_))
local macro_rules | `(tactic| walk_at "d1") => `(tactic| (with_reducible refine we_if ?_))
local macro_rules | `(tactic| walk_at "d1") => `(tactic| (with_reducible refine we_not ?_))
local macro_rules | `(tactic| walk_at "d1") => `(tactic| (with_reducible refine we_or ?_))
local macro_rules | `(tactic| walk_at "d1") => `(tactic| (with_reducible refine we_and ?_))
local macro_rules | `(tactic| walk_at "d1") => `(tactic| (with_reducible refine wt_not ?_))
local macro_rules | `(tactic| walk_at "d1") => `(tactic| (with_reducible refine wt_B ?_))
local macro_rules | `(tactic| walk_at "d1") => `(tactic| (with_reducible refine we_slT ?_))
local macro_rules | `(tactic| walk_at "d1") => `(tactic| (with_reducible refine we_lst ?_))
local macro_rules | `(tactic| walk_at "d1") => `(tactic| (with_reducible refine we_ty ?_))
local macro_rules | `(tactic| walk_at "d1") => `(tactic| (with_reducible refine we_non ?_))
local macro_rules | `(tactic| walk_at "d1") => `(tactic| (with_reducible refine we_bl ?_))
local macro_rules | `(tactic| walk_at "d1") => `(tactic| (with_reducible refine ws_asg ?_))
local macro_rules | `(tactic| walk_at "d1") => `(tactic| (with_reducible refine ws_par3 ?_))
local macro_rules | `(tactic| walk_at "d1") => `(tactic| (with_reducible refine ws_par ?_))
local macro_rules | `(tactic| walk_at "d1") => `(tactic| (with_reducible refine ws_drop ?_))
local macro_rules | `(tactic| walk_at "d1") => `(tactic| (with_reducible refine ru_neg ?_))
local macro_rules | `(tactic| walk_at "d1") => `(tactic| (with_reducible refine rl_isi_bb ?_))
local macro_rules | `(tactic| walk_at "d1") => `(tactic| (with_reducible refine rl_isi_bt ?_))
local macro_rules | `(tactic| walk_at "d1") => `(tactic| (with_reducible refine rl_isi_sb ?_))
local macro_rules | `(tactic| walk_at "d1") => `(tactic| (with_reducible refine rl_isi_st ?_))
local macro_rules | `(tactic| walk_at "d1") => `(tactic| (with_reducible refine rl_isi_is ?_))
local macro_rules | `(tactic| walk_at "d1") => `(tactic| (with_reducible refine rl_isi_it ?_))
local macro_rules | `(tactic| walk_at "d1") => `(tactic| (with_reducible refine rl_isi_ib ?_))
local macro_rules | `(tactic| walk_at "d1") => `(tactic| (with_reducible refine rl_isi_ii ?_))
local macro_rules | `(tactic| walk_at "d1") => `(tactic| (with_reducible refine rl_isi_ss ?_))
local macro_rules | `(tactic| walk_at "d1") => `(tactic| (with_reducible refine rl_isi_tt ?_))
local macro_rules | `(tactic| walk_at "d1") => `(tactic| (with_reducible refine rl_abs ?_))
local macro_rules | `(tactic| walk_at "d1") => `(tactic| (with_reducible refine rl_int ?_))
local macro_rules | `(tactic| walk_at "d1") => `(tactic| (with_reducible refine wt_or ?_))
local macro_rules | `(tactic| walk_at "d1") => `(tactic| (with_reducible refine rv_lt ?_))
local macro_rules | `(tactic| walk_at "d1") => `(tactic| (with_reducible refine rv_add ?_))
local macro_rules | `(tactic| walk_at "d1") => `(tactic| (with_reducible refine we_cb ?_))
local macro_rules | `(tactic| walk_at "d1") => `(tactic| (with_reducible refine ws_set ?_))
local macro_rules | `(tactic| walk_at "d1") => `(tactic| (with_reducible refine rv_ix1 ?_))
local macro_rules | `(tactic| walk_at "d1") => `(tactic| (with_reducible refine wt_and ?_))
local macro_rules | `(tactic| walk_at "d1") => `(tactic| (with_reducible refine we_call0 ?_))
local macro_rules | `(tactic| walk_at "d1") => `(tactic| ((with_reducible refine br_t ?h1 ?_); (case h1 => walk_at "t")))
local macro_rules | `(tactic| walk_at "d1") => `(tactic| ((with_reducible refine rv_inT ?a1 ?a2 ?_); (case a1 => rfl); (case a2 => first | rfl | decide +kernel)))
local macro_rules | `(tactic| walk_at "d1") => `(tactic| ((with_reducible refine len_and ?h1 ?_); (case h1 => first | decide | (simp; done) | (simp; omega))))
local macro_rules | `(tactic| walk_at "d1") => `(tactic| ((with_reducible refine br_f ?h1 ?_); (case h1 => walk_at "t")))
local macro_rules | `(tactic| walk_at "d1") => `(tactic| (with_reducible refine ⟨_, rfl, ?_⟩))
local macro_rules | `(tactic| walk_at "d1") => `(tactic| (with_reducible refine ws_ret ?_))
local macro_rules | `(tactic| walk_at "d1") => `(tactic| (with_reducible refine rv_eqS ?_))
local macro_rules | `(tactic| walk_at "d1") => `(tactic| (with_reducible refine we_tup ?_))
local macro_rules | `(tactic| walk_at "d1") => `(tactic| (with_reducible refine rv_ix0 ?_))
local macro_rules | `(tactic| walk_at "d1") => `(tactic| (with_reducible refine ws_next ?_))
local macro_rules | `(tactic| walk_at "d1") => `(tactic| (with_reducible refine ws_if ?_))
local macro_rules | `(tactic| walk_at "d1") => `(tactic| (with_reducible refine wt_test ?_))
local macro_rules | `(tactic| walk_at "d1") => `(tactic| (with_reducible refine ws_seq ?_))
local macro_rules | `(tactic| walk_at "d1") => `(tactic| (with_reducible refine wa_nil ?_))
local macro_rules | `(tactic| walk_at "d1") => `(tactic| (with_reducible refine we_int ?_))
local macro_rules | `(tactic| walk_at "d1") => `(tactic| (with_reducible refine we_str ?_))
local macro_rules | `(tactic| walk_at "d1") => `(tactic| (with_reducible refine we_op ?_))
local macro_rules | `(tactic| walk_at "d1") => `(tactic| ((with_reducible refine' we_var ?h1 ?_); (case h1 => exact rfl)))
local macro_rules | `(tactic| walk_at "d1") => `(tactic| (with_reducible refine wa_cons ?_))
local macro_rules | `(tactic| walk_at "d") => `(tactic| repeat (walk_at "d1"))
theorem sc_depth_by : FnScope ["term", "part"] ["term"] (defScope s_depth_by) := ⟨rfl, rfl, rfl, by decide +kernel, rfl, by decide +kernel, by decide +kernel⟩
theorem sc_parts_with_names : FnScope ["words", "term"] ["words", "term"] (defScope s_parts_with_names) := ⟨rfl, rfl, rfl, by decide +kernel, rfl, by decide +kernel, by decide +kernel⟩
theorem sc_led_name : FnScope ["name", "ways", "by", "outward", "free"] ["name", "ways", "by", "outward"] (defScope s_led_name) := ⟨rfl, rfl, rfl, by decide +kernel, rfl, by decide +kernel, by decide +kernel⟩
theorem sc_led_by : FnScope ["words", "term", "ways", "by", "outward", "parts", "name", "part", "many"] ["words", "term", "ways", "by", "outward"] (defScope s_led_by) := ⟨rfl, rfl, rfl, by decide +kernel, rfl, by decide +kernel, by decide +kernel⟩
def S_dep (n : Nat) : SpD := fun xs M Q => ∃ t : Tm, xs = [t.enc] ∧ t.dep ≤ n ∧ ∀ M', MEx M M' → Q (.int t.dep) M'
def S_pwn : SpD := fun xs M Q => ∃ t : Tm, xs = [.core, t.enc] ∧ t.isUse = true ∧ ∀ M' p, MEx M M' → M' p = some (.lst (t.zipPB.map pbD)) → Q (.adr p) M'
def S_ledn : SpD := fun xs M Q => ∃ (k d b : Int), xs = [.int k, .tup [], .int b, .int d] ∧ k < d ∧ ∀ M', MEx M M' → Q (.int k) M'
def S_led (n : Nat) : SpD := fun xs M Q => ∃ (t : Tm) (d : Nat) (b : Int), xs = [.core, t.enc, .tup [], .int b, .int (d : Int)] ∧ t.cl d = true ∧ t.dep ≤ n ∧ ∀ M', MEx M M' → Q t.enc M'
section
variable {P : Program} {w : World} {K : PySem.W.Frag} {mg : Str → Option Value} {base : Heap}
theorem dep_use {t : Tm} (h : t.isUse = true) {m : Int} (h1 : m ∈ t.parts.map fun p => (p.dep : Int)) (h2 : ∀ y ∈ t.parts.map fun p => (p.dep : Int), y ≤ m) : 1 + m = (t.dep : Int) := by
  cases t <;> first
    | (cases h; done)
    | (simp [Tm.parts, Tm.dep] at h1 h2 ⊢
       omega)
theorem step_depth_by (G : Glb K mg) {n : Nat} (c_depth_by : Cal P w K mg base n "depth_by" (S_dep n) []) : Cal P w K mg base (n + 1) "depth_by" (S_dep (n + 1)) [] := by
  obtain ⟨aLEAVES, mLEAVES, tL⟩ := G.k_LEAVES
  refine cal_mk (ps := ["term"]) G.d_depth_by (fun _ _ _ _ _ _ us hl => match us, hl with | [_], _ => rfl) sc_depth_by (fun xs M Q h => by obtain ⟨t, rfl, _⟩ := h; rfl) fun f cdv A outer s H E hr => ⟨_, (pss_cons (ps_if (pt_cmpR (op_inK (K := K) rfl) (pe_ix (ix_tupK (K := K) rfl) (pv 0) pe_int (fun _ _ => rfl)) (pe_glob (v := .ref aLEAVES) rfl mLEAVES rfl) (by rfl))
        (pss_one (ps_ret pe_int))
        pss_nil)
      (pss_one (ps_ret (pe_op op_add pe_int (pe_callB (cr_maxK (K := K) rfl rfl) (by rfl) G.b_max (by decide +kernel) (pa_cons (pe_lc (own := [("part", 1)]) (by rfl) sc_depth_by.nd (pi_tupK (K := K) rfl (pe_slice (sl_tupK (K := K) rfl) (pv 0) (po_some pe_int) po_none)) (blkOk_by (N := ["term", "part"]) (sc := defScope s_depth_by) (by decide +kernel)) (fun _ _ _ _ _ => (pg_name (i := 1) sc_depth_by.nd rfl (.inl rfl))) (fun _ _ _ _ _ => pts_nil) (fun _ _ _ _ _ => (pe_cal c_depth_by hr (by omega) ⟨rfl, rfl, rfl, rfl, rfl⟩ rfl (pa_cons (pv 1) pa_nil)))) pa_nil)))))), fun xs M Q h => ?_⟩
  obtain ⟨t, rfl, hd, q⟩ := h
  cases hu : t.isUse with
  | false =>
    refine ws_seq (ws_if (wt_test (we_op (we_word (t := t) rfl ?_))))
    walk_at "d"
    have e : t.dep = 1 := by cases t <;> first | rfl | cases hu
    have q' := q M .refl
    rw [e] at q'
    exact q'
  | true =>
    rw [Tm.enc_use hu]
    walk_at "d"
    refine we_lcParts (t := t) (fun p => .int (p.dep : Int)) rfl rfl ?_ ?_
    · intro p hp M2 hM
      walk_at "d"
      exact ⟨p, rfl, by have := Tm.dep_part hp; omega, fun M' h => ⟨h, rfl⟩⟩
    · intro r M2 hM hr
      walk_at "d"
      refine rl_max (ns := t.parts.map fun p => (p.dep : Int)) (by rw [hr, List.map_map]; rfl) (by cases t <;> first | (simp [Tm.parts]; done) | cases hu) fun m h1 h2 => ?_
      walk_at "d"
      rw [dep_use hu h1 h2]
      exact q M2 hM
theorem cal_parts_with_names (G : Glb K mg) : Cal P w K mg base 1 "parts_with_names" S_pwn [] := by
  refine cal_mk (ps := ["words", "term"]) G.d_parts_with_names (fun _ _ _ _ _ _ us hl => match us, hl with | [_, _], _ => rfl) sc_parts_with_names (fun xs M Q h => by obtain ⟨t, rfl, _⟩ := h; rfl) fun f cdv A outer s H E hr => ⟨_, (pss_one (ps_ret (pe_listZip rfl rfl rfl G.b_list rfl G.b_zip (pa_cons (pe_slice (sl_tupK (K := K) rfl) (pv 1) (po_some pe_int) po_none) (pa_cons (pe_dget (hu_of hr) (pv 0) (pe_ix (ix_tupK (K := K) rfl) (pv 1) pe_int (fun _ _ => rfl)) (fun _ _ => rfl)) pa_nil))))), fun xs M Q h => ?_⟩
  obtain ⟨t, rfl, hu, q⟩ := h
  rw [Tm.enc_use hu]
  walk_at "d"
  refine we_listZip ?_
  walk_at "d"
  refine we_core ?_
  walk_at "d"
  refine ⟨_, _, rfl, rfl, Tm.core_names hu, ?_⟩
  walk_at "d"
  rw [cut1]
  refine ⟨_, _, rfl, fun p M2 np e => ?_⟩
  subst e
  refine q _ p (.new np) ?_
  rw [mupd_same, zipD_pb]
theorem cal_led_name (G : Glb K mg) : Cal P w K mg base 1 "led_name" S_ledn [] := by
  refine cal_mk (ps := ["name", "ways", "by", "outward"]) G.d_led_name (fun _ _ _ _ _ _ us hl => match us, hl with | [_, _, _, _], _ => rfl) sc_led_name (fun xs M Q h => by obtain ⟨k, d, b, rfl, _⟩ := h; rfl) fun f cdv A outer s H E hr => ⟨_, (pss_cons (ps_if (pt_cmpR op_lt (pv 0) (pv 3) (nomark _))
        (pss_one (ps_ret (pv 0)))
        pss_nil)
      (pss_cons (ps_set (i := 4) sc_led_name.nd rfl (.inl rfl) (pe_op op_sub (pv 0) (pv 3)))
      (pss_cons (ps_if (pt_cmpR op_lt (pv 4) (pe_callB (call_lenK (K := K) rfl) (by rfl) G.b_len PySem.boot_len (pa_cons (pv 1) pa_nil)) (nomark _))
        (pss_one (ps_ret (pe_op op_add (pe_ix (ix_tupK (K := K) rfl) (pv 1) (pv 4) (fun _ _ => rfl)) (pv 3))))
        pss_nil)
      (pss_one (ps_ret (pe_op op_add (pe_op op_add (pe_op op_sub (pv 4) (pe_callB (call_lenK (K := K) rfl) (by rfl) G.b_len PySem.boot_len (pa_cons (pv 1) pa_nil))) (pv 2)) (pv 3))))))), fun xs M Q h => ?_⟩
  obtain ⟨k, d, b, rfl, hk, q⟩ := h
  walk_at "d"
  refine br_t (by simpa using hk) ?_
  walk_at "d"
  exact q M .refl
theorem step_led_by (G : Glb K mg) {n : Nat} (c_led_name : Cal P w K mg base 1 "led_name" S_ledn []) (c_parts_with_names : Cal P w K mg base 1 "parts_with_names" S_pwn []) (c_led_by : CalD P w K mg base (n + 1) "led_by" (S_led n) (.int 0)) : CalD P w K mg base (n + 2) "led_by" (S_led (n + 1)) (.int 0) := by
  obtain ⟨aLEAVES, mLEAVES, tL⟩ := G.k_LEAVES
  refine cal_mkD (ps := ["words", "term", "ways", "by", "outward"]) G.d_led_by rfl (fun _ _ _ _ _ _ _ us its hl hi => match us, its, hl, hi with | [_, _, _, _, _], [_], _, _ => ⟨_, rfl, rfl⟩) (fun _ _ _ _ _ _ _ us its hl hi => match us, its, hl, hi with | [_, _, _, _], [_], _, _ => ⟨_, rfl, rfl⟩) sc_led_by (fun xs M Q h => by obtain ⟨t, d, b, rfl, _⟩ := h; rfl) fun f cdv A outer s H E hr => ⟨_, (pss_cons (ps_if (pt_cmpR op_eq (pe_ix (ix_tupK (K := K) rfl) (pv 1) pe_int (fun _ _ => rfl)) pe_str (nomark _))
        (pss_one (ps_ret (pe_tup (pa_cons pe_str (pa_cons (pe_cal c_led_name hr (by omega) ⟨rfl, rfl, rfl, rfl, rfl⟩ rfl (pa_cons (pe_ix (ix_tupK (K := K) rfl) (pv 1) pe_int (fun _ _ => rfl)) (pa_cons (pv 2) (pa_cons (pv 3) (pa_cons (pv 4) pa_nil))))) pa_nil)))))
        pss_nil)
      (pss_cons (ps_if (pt_cmpR op_eq (pe_ix (ix_tupK (K := K) rfl) (pv 1) pe_int (fun _ _ => rfl)) pe_str (nomark _))
        (pss_one (ps_ret (pe_tup (pa_cons pe_str (pa_cons (pe_ix (ix_tupK (K := K) rfl) (pv 1) pe_int (fun _ _ => rfl)) (pa_starK (K := K) rfl (pe_lc (own := [("name", 6)]) (by rfl) sc_led_by.nd (pi_tupK (K := K) rfl (pe_slice (sl_tupK (K := K) rfl) (pv 1) (po_some pe_int) po_none)) (blkOk_by (N := ["words", "term", "ways", "by", "outward", "parts", "name", "part", "many"]) (sc := defScope s_led_by) (by decide +kernel)) (fun _ _ _ _ _ => (pg_name (i := 6) sc_led_by.nd rfl (.inl rfl))) (fun _ _ _ _ _ => pts_nil) (fun _ _ _ _ _ => (pe_cal c_led_name hr (by omega) ⟨rfl, rfl, rfl, rfl, rfl⟩ rfl (pa_cons (pv 6) (pa_cons (pv 2) (pa_cons (pv 3) (pa_cons (pv 4) pa_nil))))))) pa_nil))))))
        pss_nil)
      (pss_cons (ps_if (pt_cmpR (op_inK (K := K) rfl) (pe_ix (ix_tupK (K := K) rfl) (pv 1) pe_int (fun _ _ => rfl)) (pe_glob (v := .ref aLEAVES) rfl mLEAVES rfl) (by rfl))
        (pss_one (ps_ret (pv 1)))
        pss_nil)
      (pss_cons (ps_setLc (i := 5) (own := [("part", 7), ("many", 8)]) (by rfl) sc_led_by.nd rfl rfl (sw_true rfl rfl rfl (by decide +kernel)) (pi_listK (K := K) rfl (pe_cal c_parts_with_names hr (by omega) ⟨rfl, rfl, rfl, rfl, rfl⟩ rfl (pa_cons (pv 0) (pa_cons (pv 1) pa_nil)))) (blkOk_by (N := ["words", "term", "ways", "by", "outward", "parts", "name", "part", "many"]) (sc := defScope s_led_by) (by decide +kernel)) (fun _ _ _ _ _ => (pg_tupK (K := K) (n := 2) rfl rfl (pgs_cons (pg_name (i := 7) sc_led_by.nd rfl (.inl rfl)) (pgs_cons (pg_name (i := 8) sc_led_by.nd rfl (.inl rfl)) pgs_nil)) (by rfl) (by rfl))) (fun _ _ _ _ _ => pts_nil) (fun _ _ _ _ _ => (pe_cal c_led_by.all hr (by omega) ⟨rfl, rfl, rfl, rfl, rfl⟩ rfl (pa_cons (pv 0) (pa_cons (pv 7) (pa_cons (pv 2) (pa_cons (pv 3) (pa_cons (pe_op op_add (pv 4) (pv 8)) pa_nil))))))))
      (pss_one (ps_ret (pe_tup (pa_cons (pe_ix (ix_tupK (K := K) rfl) (pv 1) pe_int (fun _ _ => rfl)) (pa_starK (K := K) rfl (pv 5) pa_nil))))))))), fun xs M Q h => ?_⟩
  obtain ⟨t, d, b, rfl, hc, hd, q⟩ := h
  cases hu : t.isUse with
  | false =>
    cases t with
    | name k =>
      simp only [Tm.enc] at q ⊢
      walk_at "d"
      refine ⟨k, d, b, rfl, by simpa [Tm.cl] using hc, fun M' h => ?_⟩
      walk_at "d"
      exact q M' h
    | num k =>
      simp only [Tm.enc] at q ⊢
      walk_at "d"
      exact q M .refl
    | «at» k =>
      simp only [Tm.enc] at q ⊢
      walk_at "d"
      exact q M .refl
    | _ => cases hu
  | true =>
    rw [Tm.enc_use hu]
    walk_at "d"
    refine we_lcPB (t := t) (fun p => p.1.enc) rfl ?_ ?_ ?_
    · walk_at "d"
      rw [← Tm.enc_use hu]
      exact ⟨t, rfl, hu, fun M' p h1 h2 => ⟨p, rfl, h2, h1⟩⟩
    · intro p hp M2 hM
      walk_at "d"
      exact ⟨p.1, d + p.2, b, rfl, Tm.cl_zip hc p hp, by have := Tm.zip_dep hp; omega, fun M' h => ⟨h, rfl⟩⟩
    · intro r M2 hM hr
      walk_at "d"
      refine wa_starL ?_
      walk_at "d"
      refine ⟨r, _, rfl, hr, ?_⟩
      walk_at "d"
      refine mk_pb (P := fun xs => xs.length ≤ 1000000 ∧ Q (.tup xs) M2) hu (f := fun _ p => p) fun xs h1 h2 => ⟨h1, ?_⟩
      rw [h2, Tm.mapP_id]
      exact q M2 hM
end
end FS
set_option maxHeartbeats 4000000
namespace FS
open PySem PySem.Spec PyProof.Rows L2
local macro_rules | `(tactic| walk_at "t") => `(tactic| exact use_hole (by assumption))
local macro_rules | `(tactic| walk_at "t") => `(tactic| exact use_at (by assumption))
local macro_rules | `(tactic| walk_at "t") => `(tactic| exact use_name (by assumption))
local macro_rules | `(tactic| walk_at "t") => `(tactic| exact use_num (by assumption))
local macro_rules | `(tactic| walk_at "t") => `(tactic| exact leaf_leaves (by assumption))
local macro_rules | `(tactic| walk_at "t") => `(tactic| exact use_leaves (by assumption))
local macro_rules | `(tactic| walk_at "t") => `(tactic| assumption)
local macro_rules | `(tactic| walk_at "t") => `(tactic| decide +kernel)
local macro_rules | `(tactic| walk_at "t") => `(tactic| rfl)
local macro_rules | `(tactic| walk_at "d1") => `(tactic| ((with_reducible refine rv_fdiv ?h1 ?_); (case h1 => exact ⟨by decide, by decide⟩)))
local macro_rules | `(tactic| walk_at "d1") => `(tactic| ((with_reducible refine rv_mod ?h1 ?_); (case h1 => (show (0 : Int) < _; decide))))
local macro_rules | `(tactic| walk_at "d1") => `(tactic| (with_reducible refine we_call (dxs := [.int 0]) (fun H => .cons (.int 0) .nil) ?_))
local macro_rules | `(tactic| walk_at "d1") => `(tactic| ((with_reducible refine' we_c ?h1 ?_); (case h1 => assumption)))
local macro_rules | `(tactic| walk_at "d1") => `(tactic| (with_reducible refine wt_yes ?_))
local macro_rules | `(tactic| walk_at "d1") => `(tactic| (with_reducible refine wg_name ?_))
local macro_rules | `(tactic| walk_at "d1") => `(tactic| (with_reducible refine rv_ix3 ?_))
local macro_rules | `(tactic| walk_at "d1") => `(tactic| (with_reducible refine rv_ix2 ?_))
local macro_rules | `(tactic| walk_at "d1") => `(tactic| (with_reducible refine rv_notN ?_))
local macro_rules | `(tactic| walk_at "d1") => `(tactic| (with_reducible refine rv_isN ?_))
local macro_rules | `(tactic| walk_at "d1") => `(tactic| (with_reducible refine rv_neS ?_))
local macro_rules | `(tactic| walk_at "d1") => `(tactic| (with_reducible refine rv_ge ?_))
local macro_rules | `(tactic| walk_at "d1") => `(tactic| (with_reducible refine rv_gt ?_))
local macro_rules | `(tactic| walk_at "d1") => `(tactic| (with_reducible refine rv_le ?_))
local macro_rules | `(tactic| walk_at "d1") => `(tactic| (with_reducible refine rv_sub ?_))
local macro_rules | `(tactic| walk_at "d1") => `(tactic| (with_reducible refine wo_some ?_))
local macro_rules | `(tactic| walk_at "d1") => `(tactic| (with_reducible refine wo_none ?_))
local macro_rules | `(tactic| walk_at "d1") => `(tactic| (with_reducible refine we_then ?_))
local macro_rules | `(tactic| walk_at "d1") => `(tactic| (with_reducible refine we_un ?_))
local macro_rules | `(tactic| walk_at "d1") => `(tactic| (with_reducible refine we_chain ?_))
local macro_rules | `(tactic| walk_at "d1") => `(tactic| (with_reducible refine we_if ?_))
local macro_rules | `(tactic| walk_at "d1") => `(tactic| (with_reducible refine we_not ?_))
local macro_rules | `(tactic| walk_at "d1") => `(tactic| (with_reducible refine we_or ?_))
local macro_rules | `(tactic| walk_at "d1") => `(tactic| (with_reducible refine we_and ?_))
local macro_rules | `(tactic| walk_at "d1") => `(tactic| (with_reducible refine wt_not ?_))
local macro_rules | `(tactic| walk_at "d1") => `(tactic| (with_reducible refine wt_B ?_))
local macro_rules | `(tactic| walk_at "d1") => `(tactic| (with_reducible refine we_slT ?_))
local macro_rules | `(tactic| walk_at "d1") => `(tactic| (with_reducible refine we_lst ?_))
local macro_rules | `(tactic| walk_at "d1") => `(tactic| (with_reducible refine we_ty ?_))
local macro_rules | `(tactic| walk_at "d1") => `(tactic| (with_reducible refine we_non ?_))
local macro_rules | `(tactic| walk_at "d1") => `(tactic| (with_reducible refine we_bl ?_))
local macro_rules | `(tactic| walk_at "d1") => `(tactic| (with_reducible refine ws_asg ?_))
local macro_rules | `(tactic| walk_at "d1") => `(tactic| (with_reducible refine ws_par3 ?_))
local macro_rules | `(tactic| walk_at "d1") => `(tactic| (with_reducible refine ws_par ?_))
local macro_rules | `(tactic| walk_at "d1") => `(tactic| (with_reducible refine ws_drop ?_))
local macro_rules | `(tactic| walk_at "d1") => `(tactic| (with_reducible refine ru_neg ?_))
local macro_rules | `(tactic| walk_at "d1") => `(tactic| (with_reducible refine rl_isi_bb ?_))
local macro_rules | `(tactic| walk_at "d1") => `(tactic| (with_reducible refine rl_isi_bt ?_))
local macro_rules | `(tactic| walk_at "d1") => `(tactic| (with_reducible refine rl_isi_sb ?_))
local macro_rules | `(tactic| walk_at "d1") => `(tactic| (with_reducible refine rl_isi_st ?_))
local macro_rules | `(tactic| walk_at "d1") => `(tactic| (with_reducible refine rl_isi_is ?_))
local macro_rules | `(tactic| walk_at "d1") => `(tactic| (with_reducible refine rl_isi_it ?_))
local macro_rules | `(tactic| walk_at "d1") => `(tactic| (with_reducible refine rl_isi_ib ?_))
local macro_rules | `(tactic| walk_at "d1") => `(tactic| (with_reducible refine rl_isi_ii ?_))
local macro_rules | `(tactic| walk_at "d1") => `(tactic| (with_reducible refine rl_isi_ss ?_))
local macro_rules | `(tactic| walk_at "d1") => `(tactic| (with_reducible refine rl_isi_tt ?_))
local macro_rules | `(tactic| walk_at "d1") => `(tactic| (with_reducible refine rl_abs ?_))
local macro_rules | `(tactic| walk_at "d1") => `(tactic| (with_reducible refine rl_int ?_))
local macro_rules | `(tactic| walk_at "d1") => `(tactic| (with_reducible refine wt_or ?_))
local macro_rules | `(tactic| walk_at "d1") => `(tactic| (with_reducible refine rv_lt ?_))
local macro_rules | `(tactic| walk_at "d1") => `(tactic| (with_reducible refine rv_add ?_))
local macro_rules | `(tactic| walk_at "d1") => `(tactic| (with_reducible refine we_cb ?_))
local macro_rules | `(tactic| walk_at "d1") => `(tactic| (with_reducible refine ws_set ?_))
local macro_rules | `(tactic| walk_at "d1") => `(tactic| (with_reducible refine rv_ix1 ?_))
local macro_rules | `(tactic| walk_at "d1") => `(tactic| (with_reducible refine wt_and ?_))
local macro_rules | `(tactic| walk_at "d1") => `(tactic| (with_reducible refine we_call0 ?_))
local macro_rules | `(tactic| walk_at "d1") => `(tactic| ((with_reducible refine br_t ?h1 ?_); (case h1 => walk_at "t")))
local macro_rules | `(tactic| walk_at "d1") => `(tactic| ((with_reducible refine rv_inT ?a1 ?a2 ?_); (case a1 => rfl); (case a2 => first | rfl | decide +kernel)))
local macro_rules | `(tactic| walk_at "d1") => `(tactic| ((with_reducible refine len_and ?h1 ?_); (case h1 => first | decide | (simp; done) | (simp; omega))))
local macro_rules | `(tactic| walk_at "d1") => `(tactic| ((with_reducible refine br_f ?h1 ?_); (case h1 => walk_at "t")))
local macro_rules | `(tactic| walk_at "d1") => `(tactic| (with_reducible refine ⟨_, rfl, ?_⟩))
local macro_rules | `(tactic| walk_at "d1") => `(tactic| (with_reducible refine ws_ret ?_))
local macro_rules | `(tactic| walk_at "d1") => `(tactic| (with_reducible refine rv_eqS ?_))
local macro_rules | `(tactic| walk_at "d1") => `(tactic| (with_reducible refine we_tup ?_))
local macro_rules | `(tactic| walk_at "d1") => `(tactic| (with_reducible refine rv_ix0 ?_))
local macro_rules | `(tactic| walk_at "d1") => `(tactic| (with_reducible refine ws_next ?_))
local macro_rules | `(tactic| walk_at "d1") => `(tactic| (with_reducible refine ws_if ?_))
local macro_rules | `(tactic| walk_at "d1") => `(tactic| (with_reducible refine wt_test ?_))
local macro_rules | `(tactic| walk_at "d1") => `(tactic| (with_reducible refine ws_seq ?_))
local macro_rules | `(tactic| walk_at "d1") => `(tactic| (with_reducible refine wa_nil ?_))
local macro_rules | `(tactic| walk_at "d1") => `(tactic| (with_reducible refine we_int ?_))
local macro_rules | `(tactic| walk_at "d1") => `(tactic| (with_reducible refine we_str ?_))
local macro_rules | `(tactic| walk_at "d1") => `(tactic| (with_reducible refine we_op ?_))
local macro_rules | `(tactic| walk_at "d1") => `(tactic| ((with_reducible refine' we_var ?h1 ?_); (case h1 => exact rfl)))
local macro_rules | `(tactic| walk_at "d1") => `(tactic| (with_reducible refine wa_cons ?_))
local macro_rules | `(tactic| walk_at "d") => `(tactic| repeat (walk_at "d1"))
theorem sc_put_in_by : FnScope ["words", "term", "given", "outward", "free", "parts", "part", "many"] ["words", "term", "given", "outward"] (defScope s_put_in_by) := ⟨rfl, rfl, rfl, by decide +kernel, rfl, by decide +kernel, by decide +kernel⟩
theorem sc_put_length : FnScope ["words", "term", "lengths", "outward", "free", "inner", "part", "many"] ["words", "term", "lengths", "outward"] (defScope s_put_length) := ⟨rfl, rfl, rfl, by decide +kernel, rfl, by decide +kernel, by decide +kernel⟩
theorem sc_put_depth : FnScope ["words", "term", "depths", "outward", "free", "part", "many"] ["words", "term", "depths", "outward"] (defScope s_put_depth) := ⟨rfl, rfl, rfl, by decide +kernel, rfl, by decide +kernel, by decide +kernel⟩
def S_put (n m : Nat) : SpD := fun xs M Q => ∃ (t : Tm) (gs : List Tm) (d : Nat), xs = [.core, t.enc, .tup (gs.map Tm.enc), .int (d : Int)] ∧ t.cl (d + gs.length) = true ∧ (∀ g ∈ gs, g.cl 0 = true ∧ g.dep ≤ m) ∧ t.dep ≤ n ∧ ∀ M', MEx M M' → Q (t.putIn gs d).enc M'
def S_putl (n : Nat) : SpD := fun xs M Q => ∃ (t : Tm) (gs : List Tm) (d : Nat) (p : Addr), xs = [.core, t.enc, .adr p, .int (d : Int)] ∧ M p = some (.lst (gs.map fun g => .int (g.len : Int))) ∧ t.dep ≤ n ∧ ∀ M', MEx M M' → Q (.int ((t.putIn gs d).len : Int)) M'
def S_putd (n : Nat) : SpD := fun xs M Q => ∃ (t : Tm) (gs : List Tm) (d : Nat) (p : Addr), xs = [.core, t.enc, .adr p, .int (d : Int)] ∧ M p = some (.lst (gs.map fun g => .int (g.dep : Int))) ∧ t.dep ≤ n ∧ ∀ M', MEx M M' → Q (.int ((t.putIn gs d).dep : Int)) M'
section
variable {P : Program} {w : World} {K : PySem.W.Frag} {mg : Str → Option Value} {base : Heap}
theorem step_put_in_by (G : Glb K mg) {n m L : Nat} (hL : 1 ≤ L) (c_parts_with_names : Cal P w K mg base 1 "parts_with_names" S_pwn []) (c_led_by : CalD P w K mg base L "led_by" (S_led m) (.int 0)) (c_put_in_by : CalD P w K mg base (n + L) "put_in_by" (S_put n m) (.int 0)) : CalD P w K mg base (n + L + 1) "put_in_by" (S_put (n + 1) m) (.int 0) := by
  obtain ⟨aLEAVES, mLEAVES, tL⟩ := G.k_LEAVES
  refine cal_mkD (ps := ["words", "term", "given", "outward"]) G.d_put_in_by rfl (fun _ _ _ _ _ _ _ us its hl hi => match us, its, hl, hi with | [_, _, _, _], [_], _, _ => ⟨_, rfl, rfl⟩) (fun _ _ _ _ _ _ _ us its hl hi => match us, its, hl, hi with | [_, _, _], [_], _, _ => ⟨_, rfl, rfl⟩) sc_put_in_by (fun xs M Q h => by obtain ⟨t, d, b, rfl, _⟩ := h; rfl) fun f cdv A outer s H E hr => ⟨_, (pss_cons (ps_if (pt_cmpR op_eq (pe_ix (ix_tupK (K := K) rfl) (pv 1) pe_int (fun _ _ => rfl)) pe_str (nomark _))
        (pss_cons (ps_set (i := 4) sc_put_in_by.nd rfl (.inl rfl) (pe_op op_sub (pe_ix (ix_tupK (K := K) rfl) (pv 1) pe_int (fun _ _ => rfl)) (pv 3)))
        (pss_cons (ps_if (pt_cmpR op_lt (pv 4) pe_int (nomark _))
          (pss_one (ps_ret (pv 1)))
          pss_nil)
        (pss_cons (ps_if (pt_cmpR op_lt (pv 4) (pe_callB (call_lenK (K := K) rfl) (by rfl) G.b_len PySem.boot_len (pa_cons (pv 2) pa_nil)) (nomark _))
          (pss_one (ps_ret (pe_cal c_led_by.dft hr (by omega) ⟨rfl, rfl, rfl, rfl, rfl⟩ rfl (pa_cons (pv 0) (pa_cons (pe_ix (ix_tupK (K := K) rfl) (pv 2) (pv 4) (fun _ _ => rfl)) (pa_cons (pe_tup pa_nil) (pa_cons (pv 3) pa_nil)))))))
          pss_nil)
        (pss_one (ps_ret (pe_tup (pa_cons pe_str (pa_cons (pe_op op_sub (pe_ix (ix_tupK (K := K) rfl) (pv 1) pe_int (fun _ _ => rfl)) (pe_callB (call_lenK (K := K) rfl) (by rfl) G.b_len PySem.boot_len (pa_cons (pv 2) pa_nil))) pa_nil))))))))
        pss_nil)
      (pss_cons (ps_if (pt_cmpR (op_inK (K := K) rfl) (pe_ix (ix_tupK (K := K) rfl) (pv 1) pe_int (fun _ _ => rfl)) (pe_glob (v := .ref aLEAVES) rfl mLEAVES rfl) (by rfl))
        (pss_one (ps_ret (pv 1)))
        pss_nil)
      (pss_cons (ps_setLc (i := 5) (own := [("part", 6), ("many", 7)]) (by rfl) sc_put_in_by.nd rfl rfl (sw_true rfl rfl rfl (by decide +kernel)) (pi_listK (K := K) rfl (pe_cal c_parts_with_names hr (by omega) ⟨rfl, rfl, rfl, rfl, rfl⟩ rfl (pa_cons (pv 0) (pa_cons (pv 1) pa_nil)))) (blkOk_by (N := ["words", "term", "given", "outward", "free", "parts", "part", "many"]) (sc := defScope s_put_in_by) (by decide +kernel)) (fun _ _ _ _ _ => (pg_tupK (K := K) (n := 2) rfl rfl (pgs_cons (pg_name (i := 6) sc_put_in_by.nd rfl (.inl rfl)) (pgs_cons (pg_name (i := 7) sc_put_in_by.nd rfl (.inl rfl)) pgs_nil)) (by rfl) (by rfl))) (fun _ _ _ _ _ => pts_nil) (fun _ _ _ _ _ => (pe_cal c_put_in_by.all hr (by omega) ⟨rfl, rfl, rfl, rfl, rfl⟩ rfl (pa_cons (pv 0) (pa_cons (pv 6) (pa_cons (pv 2) (pa_cons (pe_op op_add (pv 3) (pv 7)) pa_nil)))))))
      (pss_one (ps_ret (pe_tup (pa_cons (pe_ix (ix_tupK (K := K) rfl) (pv 1) pe_int (fun _ _ => rfl)) (pa_starK (K := K) rfl (pv 5) pa_nil)))))))), fun xs M Q h => ?_⟩
  obtain ⟨t, gs, d, rfl, hc, hg, hd, q⟩ := h
  cases hu : t.isUse with
  | false =>
    cases t with
    | name k =>
      have hc' : k < d + gs.length := by simpa [Tm.cl] using hc
      simp only [Tm.enc] at q ⊢
      walk_at "d"
      by_cases h1 : k < d
      · refine br_t (decide_eq_true (by omega)) ?_
        walk_at "d"
        have e : (Tm.name k).putIn gs d = .name k := by simp [Tm.putIn, h1]
        rw [e] at q
        exact q M .refl
      · refine br_f (decide_eq_false (by omega)) ?_
        walk_at "d"
        refine rl_lenT ?_
        walk_at "d"
        rw [List.length_map]
        refine br_t (decide_eq_true (by omega)) ?_
        walk_at "d"
        have e1 : gs[k - d]? = some gs[k - d] := List.getElem?_eq_getElem (by omega)
        have e : (Tm.name k).putIn gs d = gs[k - d] := by simp [Tm.putIn, h1, e1]
        have e2 : ((k : Int) - (d : Int)) = ((k - d : Nat) : Int) := by omega
        rw [e2]
        refine rv_ixT (d := (gs[k - d]).enc) (atI_nat (by rw [List.getElem?_map, e1]; rfl)) ?_
        walk_at "d"
        obtain ⟨hg1, hg2⟩ := hg gs[k - d] (List.getElem_mem _)
        refine ⟨gs[k - d], 0, d, rfl, hg1, hg2, fun M' h => ?_⟩
        rw [e] at q
        exact q M' h
    | num k =>
      simp only [Tm.enc] at q ⊢
      walk_at "d"
      exact q M .refl
    | «at» k =>
      simp only [Tm.enc] at q ⊢
      walk_at "d"
      exact q M .refl
    | _ => cases hu
  | true =>
    rw [Tm.enc_use hu]
    walk_at "d"
    refine we_lcPB (t := t) (fun p => (p.1.putIn gs (d + p.2)).enc) rfl ?_ ?_ ?_
    · walk_at "d"
      rw [← Tm.enc_use hu]
      exact ⟨t, rfl, hu, fun M' p h1 h2 => ⟨p, rfl, h2, h1⟩⟩
    · intro p hp M2 hM
      walk_at "d"
      exact ⟨p.1, gs, d + p.2, rfl, by rw [Nat.add_right_comm]; exact Tm.cl_zip hc p hp, hg, by have := Tm.zip_dep hp; omega, fun M' h => ⟨h, rfl⟩⟩
    · intro r M2 hM hr
      walk_at "d"
      refine wa_starL ?_
      walk_at "d"
      refine ⟨r, _, rfl, hr, ?_⟩
      walk_at "d"
      refine mk_pb (P := fun xs => xs.length ≤ 1000000 ∧ Q (.tup xs) M2) hu (f := fun b p => p.putIn gs (d + b)) fun xs h1 h2 => ⟨h1, ?_⟩
      rw [h2, ← Tm.putIn_use hu]
      exact q M2 hM
theorem len_mapP {t : Tm} (h : t.isUse = true) {f : Nat → Tm → Tm} : ((t.mapP f).len : Int) = 1 + (t.binds.sum : Nat) + ((t.zipPB.map fun p => (f p.2 p.1).len).sum : Nat) := by
  cases t <;> first | (simp [Tm.mapP, Tm.len, Tm.binds, Tm.parts, Tm.zipPB] <;> omega) | cases h
theorem step_put_length (G : Glb K mg) {n : Nat} (c_parts_with_names : Cal P w K mg base 1 "parts_with_names" S_pwn []) (c_put_length : CalD P w K mg base (n + 1) "put_length" (S_putl n) (.int 0)) : CalD P w K mg base (n + 2) "put_length" (S_putl (n + 1)) (.int 0) := by
  obtain ⟨aLEAVES, mLEAVES, tL⟩ := G.k_LEAVES
  refine cal_mkD (ps := ["words", "term", "lengths", "outward"]) G.d_put_length rfl (fun _ _ _ _ _ _ _ us its hl hi => match us, its, hl, hi with | [_, _, _, _], [_], _, _ => ⟨_, rfl, rfl⟩) (fun _ _ _ _ _ _ _ us its hl hi => match us, its, hl, hi with | [_, _, _], [_], _, _ => ⟨_, rfl, rfl⟩) sc_put_length (fun xs M Q h => by obtain ⟨t, d, b, p, rfl, _⟩ := h; rfl) fun f cdv A outer s H E hr => ⟨_, (pss_cons (ps_if (pt_cmpR op_eq (pe_ix (ix_tupK (K := K) rfl) (pv 1) pe_int (fun _ _ => rfl)) pe_str (nomark _))
        (pss_cons (ps_set (i := 4) sc_put_length.nd rfl (.inl rfl) (pe_op op_sub (pe_ix (ix_tupK (K := K) rfl) (pv 1) pe_int (fun _ _ => rfl)) (pv 3)))
        (pss_one (ps_ret (pe_ifExp (pt_chain op_le op_lt pe_int (pv 4) (pe_callB (call_lenK (K := K) rfl) (by rfl) G.b_len PySem.boot_len (pa_cons (pv 2) pa_nil))) (pe_ix (ix_listK (K := K) rfl) (pv 2) (pv 4) (fun _ _ => rfl)) pe_int))))
        pss_nil)
      (pss_cons (ps_if (pt_cmpR (op_inK (K := K) rfl) (pe_ix (ix_tupK (K := K) rfl) (pv 1) pe_int (fun _ _ => rfl)) (pe_glob (v := .ref aLEAVES) rfl mLEAVES rfl) (by rfl))
        (pss_one (ps_ret pe_int))
        pss_nil)
      (pss_cons (ps_setLc (i := 5) (own := [("part", 6), ("many", 7)]) (by rfl) sc_put_length.nd rfl rfl (sw_true rfl rfl rfl (by decide +kernel)) (pi_listK (K := K) rfl (pe_cal c_parts_with_names hr (by omega) ⟨rfl, rfl, rfl, rfl, rfl⟩ rfl (pa_cons (pv 0) (pa_cons (pv 1) pa_nil)))) (blkOk_by (N := ["words", "term", "lengths", "outward", "free", "inner", "part", "many"]) (sc := defScope s_put_length) (by decide +kernel)) (fun _ _ _ _ _ => (pg_tupK (K := K) (n := 2) rfl rfl (pgs_cons (pg_name (i := 6) sc_put_length.nd rfl (.inl rfl)) (pgs_cons (pg_name (i := 7) sc_put_length.nd rfl (.inl rfl)) pgs_nil)) (by rfl) (by rfl))) (fun _ _ _ _ _ => pts_nil) (fun _ _ _ _ _ => (pe_cal c_put_length.all hr (by omega) ⟨rfl, rfl, rfl, rfl, rfl⟩ rfl (pa_cons (pv 0) (pa_cons (pv 6) (pa_cons (pv 2) (pa_cons (pe_op op_add (pv 3) (pv 7)) pa_nil)))))))
      (pss_one (ps_ret (pe_op op_add (pe_op op_add pe_int (pe_callB (cr_sumTK (K := K) rfl rfl) (by rfl) G.b_sum (by decide +kernel) (pa_cons (pe_dget (hu_of hr) (pv 0) (pe_ix (ix_tupK (K := K) rfl) (pv 1) pe_int (fun _ _ => rfl)) (fun _ _ => rfl)) pa_nil))) (pe_callB (cr_sumK (K := K) rfl rfl) (by rfl) G.b_sum (by decide +kernel) (pa_cons (pv 5) pa_nil)))))))), fun xs M Q h => ?_⟩
  obtain ⟨t, gs, d, p, rfl, hp, hd, q⟩ := h
  cases hu : t.isUse with
  | false =>
    cases t with
    | name k =>
      simp only [Tm.enc] at q ⊢
      walk_at "d"
      by_cases h1 : k < d
      · have e : (Tm.name k).putIn gs d = .name k := by simp [Tm.putIn, h1]
        rw [e] at q
        refine br_f (decide_eq_false (by omega)) ?_
        walk_at "d"
        exact q M .refl
      · refine br_t (decide_eq_true (by omega)) ?_
        walk_at "d"
        refine rl_lenL hp ?_
        walk_at "d"
        rw [List.length_map]
        by_cases h2 : k - d < gs.length
        · have e1 : gs[k - d]? = some gs[k - d] := List.getElem?_eq_getElem h2
          have e : (Tm.name k).putIn gs d = gs[k - d] := by simp [Tm.putIn, h1, e1]
          rw [e] at q
          refine br_t (decide_eq_true (by omega)) ?_
          walk_at "d"
          have e2 : ((k : Int) - (d : Int)) = ((k - d : Nat) : Int) := by omega
          rw [e2]
          refine rv_ixL hp (atI_nat (by rw [List.getElem?_map, e1]; rfl)) ?_
          walk_at "d"
          exact q M .refl
        · have e1 : gs[k - d]? = none := List.getElem?_eq_none (by omega)
          have e : (Tm.name k).putIn gs d = .name (k - gs.length) := by simp [Tm.putIn, h1, e1]
          rw [e] at q
          refine br_f (decide_eq_false (by omega)) ?_
          walk_at "d"
          exact q M .refl
    | num k =>
      simp only [Tm.enc] at q ⊢
      walk_at "d"
      exact q M .refl
    | «at» k =>
      simp only [Tm.enc] at q ⊢
      walk_at "d"
      exact q M .refl
    | _ => cases hu
  | true =>
    rw [Tm.enc_use hu]
    walk_at "d"
    refine we_lcPB (t := t) (fun p => .int ((p.1.putIn gs (d + p.2)).len : Int)) rfl ?_ ?_ ?_
    · walk_at "d"
      rw [← Tm.enc_use hu]
      exact ⟨t, rfl, hu, fun M' p h1 h2 => ⟨p, rfl, h2, h1⟩⟩
    · intro r hr M2 hM
      walk_at "d"
      exact ⟨r.1, gs, d + r.2, p, rfl, hM _ _ hp, by have := Tm.zip_dep hr; omega, fun M' h => ⟨h, rfl⟩⟩
    · intro r M2 hM hr
      walk_at "d"
      refine we_core ?_
      walk_at "d"
      refine ⟨_, _, rfl, rfl, Tm.core_names hu, ?_⟩
      walk_at "d"
      refine rl_sumTN ?_
      walk_at "d"
      refine rl_sumN hr ?_
      walk_at "d"
      have e := len_mapP hu (f := fun b p => p.putIn gs (d + b))
      rw [← Tm.putIn_use hu] at e
      have q' := q M2 hM
      rw [e] at q'
      exact q'
theorem dep_mapP {t : Tm} (h : t.isUse = true) {f : Nat → Tm → Tm} {m : Int} (h1 : m ∈ t.zipPB.map fun p => ((f p.2 p.1).dep : Int)) (h2 : ∀ y ∈ t.zipPB.map fun p => ((f p.2 p.1).dep : Int), y ≤ m) : 1 + m = ((t.mapP f).dep : Int) := by
  cases t <;> first
    | (cases h; done)
    | (simp [Tm.parts, Tm.dep, Tm.mapP, Tm.zipPB, Tm.binds] at h1 h2 ⊢
       omega)
theorem step_put_depth (G : Glb K mg) {n : Nat} (c_parts_with_names : Cal P w K mg base 1 "parts_with_names" S_pwn []) (c_put_depth : CalD P w K mg base (n + 1) "put_depth" (S_putd n) (.int 0)) : CalD P w K mg base (n + 2) "put_depth" (S_putd (n + 1)) (.int 0) := by
  obtain ⟨aLEAVES, mLEAVES, tL⟩ := G.k_LEAVES
  refine cal_mkD (ps := ["words", "term", "depths", "outward"]) G.d_put_depth rfl (fun _ _ _ _ _ _ _ us its hl hi => match us, its, hl, hi with | [_, _, _, _], [_], _, _ => ⟨_, rfl, rfl⟩) (fun _ _ _ _ _ _ _ us its hl hi => match us, its, hl, hi with | [_, _, _], [_], _, _ => ⟨_, rfl, rfl⟩) sc_put_depth (fun xs M Q h => by obtain ⟨t, d, b, p, rfl, _⟩ := h; rfl) fun f cdv A outer s H E hr => ⟨_, (pss_cons (ps_if (pt_cmpR op_eq (pe_ix (ix_tupK (K := K) rfl) (pv 1) pe_int (fun _ _ => rfl)) pe_str (nomark _))
        (pss_cons (ps_set (i := 4) sc_put_depth.nd rfl (.inl rfl) (pe_op op_sub (pe_ix (ix_tupK (K := K) rfl) (pv 1) pe_int (fun _ _ => rfl)) (pv 3)))
        (pss_one (ps_ret (pe_ifExp (pt_chain op_le op_lt pe_int (pv 4) (pe_callB (call_lenK (K := K) rfl) (by rfl) G.b_len PySem.boot_len (pa_cons (pv 2) pa_nil))) (pe_ix (ix_listK (K := K) rfl) (pv 2) (pv 4) (fun _ _ => rfl)) pe_int))))
        pss_nil)
      (pss_cons (ps_if (pt_cmpR (op_inK (K := K) rfl) (pe_ix (ix_tupK (K := K) rfl) (pv 1) pe_int (fun _ _ => rfl)) (pe_glob (v := .ref aLEAVES) rfl mLEAVES rfl) (by rfl))
        (pss_one (ps_ret pe_int))
        pss_nil)
      (pss_one (ps_ret (pe_op op_add pe_int (pe_callB (cr_maxK (K := K) rfl rfl) (by rfl) G.b_max (by decide +kernel) (pa_cons (pe_lc (own := [("part", 5), ("many", 6)]) (by rfl) sc_put_depth.nd (pi_listK (K := K) rfl (pe_cal c_parts_with_names hr (by omega) ⟨rfl, rfl, rfl, rfl, rfl⟩ rfl (pa_cons (pv 0) (pa_cons (pv 1) pa_nil)))) (blkOk_by (N := ["words", "term", "depths", "outward", "free", "part", "many"]) (sc := defScope s_put_depth) (by decide +kernel)) (fun _ _ _ _ _ => (pg_tupK (K := K) (n := 2) rfl rfl (pgs_cons (pg_name (i := 5) sc_put_depth.nd rfl (.inl rfl)) (pgs_cons (pg_name (i := 6) sc_put_depth.nd rfl (.inl rfl)) pgs_nil)) (by rfl) (by rfl))) (fun _ _ _ _ _ => pts_nil) (fun _ _ _ _ _ => (pe_cal c_put_depth.all hr (by omega) ⟨rfl, rfl, rfl, rfl, rfl⟩ rfl (pa_cons (pv 0) (pa_cons (pv 5) (pa_cons (pv 2) (pa_cons (pe_op op_add (pv 3) (pv 6)) pa_nil))))))) pa_nil))))))), fun xs M Q h => ?_⟩
  obtain ⟨t, gs, d, p, rfl, hp, hd, q⟩ := h
  cases hu : t.isUse with
  | false =>
    cases t with
    | name k =>
      simp only [Tm.enc] at q ⊢
      walk_at "d"
      by_cases h1 : k < d
      · have e : (Tm.name k).putIn gs d = .name k := by simp [Tm.putIn, h1]
        rw [e] at q
        refine br_f (decide_eq_false (by omega)) ?_
        walk_at "d"
        exact q M .refl
      · refine br_t (decide_eq_true (by omega)) ?_
        walk_at "d"
        refine rl_lenL hp ?_
        walk_at "d"
        rw [List.length_map]
        by_cases h2 : k - d < gs.length
        · have e1 : gs[k - d]? = some gs[k - d] := List.getElem?_eq_getElem h2
          have e : (Tm.name k).putIn gs d = gs[k - d] := by simp [Tm.putIn, h1, e1]
          rw [e] at q
          refine br_t (decide_eq_true (by omega)) ?_
          walk_at "d"
          have e2 : ((k : Int) - (d : Int)) = ((k - d : Nat) : Int) := by omega
          rw [e2]
          refine rv_ixL hp (atI_nat (by rw [List.getElem?_map, e1]; rfl)) ?_
          walk_at "d"
          exact q M .refl
        · have e1 : gs[k - d]? = none := List.getElem?_eq_none (by omega)
          have e : (Tm.name k).putIn gs d = .name (k - gs.length) := by simp [Tm.putIn, h1, e1]
          rw [e] at q
          refine br_f (decide_eq_false (by omega)) ?_
          walk_at "d"
          exact q M .refl
    | num k =>
      simp only [Tm.enc] at q ⊢
      walk_at "d"
      exact q M .refl
    | «at» k =>
      simp only [Tm.enc] at q ⊢
      walk_at "d"
      exact q M .refl
    | _ => cases hu
  | true =>
    rw [Tm.enc_use hu]
    walk_at "d"
    refine we_lcPB (t := t) (fun p => .int ((p.1.putIn gs (d + p.2)).dep : Int)) rfl ?_ ?_ ?_
    · walk_at "d"
      rw [← Tm.enc_use hu]
      exact ⟨t, rfl, hu, fun M' p h1 h2 => ⟨p, rfl, h2, h1⟩⟩
    · intro r hr M2 hM
      walk_at "d"
      exact ⟨r.1, gs, d + r.2, p, rfl, hM _ _ hp, by have := Tm.zip_dep hr; omega, fun M' h => ⟨h, rfl⟩⟩
    · intro r M2 hM hr
      walk_at "d"
      refine rl_max (ns := t.zipPB.map fun p => ((p.1.putIn gs (d + p.2)).dep : Int)) (by rw [hr, List.map_map]; rfl) (by cases t <;> first | (simp [Tm.parts, Tm.zipPB, Tm.binds]; done) | cases hu) fun m h1 h2 => ?_
      walk_at "d"
      have e := dep_mapP hu (f := fun b p => p.putIn gs (d + b)) h1 h2
      rw [← Tm.putIn_use hu] at e
      rw [e]
      exact q M2 hM
theorem sc_ats_led_by : FnScope ["term", "numbers", "part"] ["term", "numbers"] (defScope s_ats_led_by) := ⟨rfl, rfl, rfl, by decide +kernel, rfl, by decide +kernel, by decide +kernel⟩
theorem sc_part_by : FnScope ["term", "place", "index"] ["term", "place"] (defScope s_part_by) := ⟨rfl, rfl, rfl, by decide +kernel, rfl, by decide +kernel, by decide +kernel⟩
theorem sc_replaced_by : FnScope ["term", "place", "part", "inner"] ["term", "place", "part"] (defScope s_replaced_by) := ⟨rfl, rfl, rfl, by decide +kernel, rfl, by decide +kernel, by decide +kernel⟩
theorem sc_is_value_by : FnScope ["term"] ["term"] (defScope s_is_value_by) := ⟨rfl, rfl, rfl, by decide +kernel, rfl, by decide +kernel, by decide +kernel⟩
def S_atsled (n : Nat) : SpD := fun xs M Q => ∃ (t : Tm) (p : Addr) (kvs : List (Key × Dv)) (ks : List Nat), xs = [t.enc, .adr p] ∧ M p = some (.dct kvs) ∧ (∀ k, t.has k = true → valD kvs (.inl (k : Int)) = some (.int (ks.idxOf k : Int))) ∧ t.dep ≤ n ∧ ∀ M', MEx M M' → Q (t.renum ks).enc M'
theorem has_part {t p : Tm} {k : Nat} (hp : p ∈ t.parts) (h : p.has k = true) : t.has k = true := by
  cases t <;> simp [Tm.parts] at hp
  · subst hp; simpa [Tm.has] using h
  · rcases hp with rfl | rfl <;> simp [Tm.has, h]
  · rcases hp with rfl | rfl | rfl <;> simp [Tm.has, h]
theorem step_ats_led_by (G : Glb K mg) {n : Nat} (c_ats_led_by : Cal P w K mg base n "ats_led_by" (S_atsled n) []) : Cal P w K mg base (n + 1) "ats_led_by" (S_atsled (n + 1)) [] := by
  obtain ⟨aLEAVES, mLEAVES, tL⟩ := G.k_LEAVES
  refine cal_mk (ps := ["term", "numbers"]) G.d_ats_led_by (fun _ _ _ _ _ _ us hl => match us, hl with | [_, _], _ => rfl) sc_ats_led_by (fun xs M Q h => by obtain ⟨t, p, kvs, ks, rfl, _⟩ := h; rfl) fun f cdv A outer s H E hr => ⟨_, (pss_cons (ps_if (pt_cmpR op_eq (pe_ix (ix_tupK (K := K) rfl) (pv 0) pe_int (fun _ _ => rfl)) pe_str (nomark _))
        (pss_one (ps_ret (pe_tup (pa_cons pe_str (pa_cons (pe_dget (hu_of hr) (pv 1) (pe_ix (ix_tupK (K := K) rfl) (pv 0) pe_int (fun _ _ => rfl)) (fun _ _ => rfl)) pa_nil)))))
        pss_nil)
      (pss_cons (ps_if (pt_cmpR (op_inK (K := K) rfl) (pe_ix (ix_tupK (K := K) rfl) (pv 0) pe_int (fun _ _ => rfl)) (pe_glob (v := .ref aLEAVES) rfl mLEAVES rfl) (by rfl))
        (pss_one (ps_ret (pv 0)))
        pss_nil)
      (pss_one (ps_ret (pe_tup (pa_cons (pe_ix (ix_tupK (K := K) rfl) (pv 0) pe_int (fun _ _ => rfl)) (pa_starK (K := K) rfl (pe_lc (own := [("part", 2)]) (by rfl) sc_ats_led_by.nd (pi_tupK (K := K) rfl (pe_slice (sl_tupK (K := K) rfl) (pv 0) (po_some pe_int) po_none)) (blkOk_by (N := ["term", "numbers", "part"]) (sc := defScope s_ats_led_by) (by decide +kernel)) (fun _ _ _ _ _ => (pg_name (i := 2) sc_ats_led_by.nd rfl (.inl rfl))) (fun _ _ _ _ _ => pts_nil) (fun _ _ _ _ _ => (pe_cal c_ats_led_by hr (by omega) ⟨rfl, rfl, rfl, rfl, rfl⟩ rfl (pa_cons (pv 2) (pa_cons (pv 1) pa_nil))))) pa_nil))))))), fun xs M Q h => ?_⟩
  obtain ⟨t, p, kvs, ks, rfl, hp, hk, hd, q⟩ := h
  cases hu : t.isUse with
  | false =>
    cases t with
    | name k =>
      simp only [Tm.enc] at q ⊢
      walk_at "d"
      exact q M .refl
    | num k =>
      simp only [Tm.enc] at q ⊢
      walk_at "d"
      exact q M .refl
    | «at» k =>
      simp only [Tm.enc] at q ⊢
      walk_at "d"
      refine we_dget ?_
      walk_at "d"
      refine ⟨p, .inl k, kvs, _, rfl, rfl, hp, hk k (by simp [Tm.has]), ?_⟩
      walk_at "d"
      exact q M .refl
    | _ => cases hu
  | true =>
    rw [Tm.enc_use hu]
    walk_at "d"
    refine wa_starL ?_
    refine we_lcParts (t := t) (fun p => (p.renum ks).enc) rfl rfl ?_ ?_
    · intro r hr M2 hM
      walk_at "d"
      exact ⟨r, p, kvs, ks, rfl, hM _ _ hp, fun k h => hk k (has_part hr h), by have := Tm.dep_part hr; omega, fun M' h => ⟨h, rfl⟩⟩
    · intro r M2 hM hr
      refine ⟨r, _, rfl, hr, ?_⟩
      walk_at "d"
      refine mk_p (P := fun xs => xs.length ≤ 1000000 ∧ Q (.tup xs) M2) hu (f := fun p => p.renum ks) fun xs h1 h2 => ⟨h1, ?_⟩
      rw [h2, ← Tm.renum_use hu]
      exact q M2 hM
def plD (pl : List Nat) : Dv := .tup ((pl.map fun n => ((n : Nat) : Int)).map .int)
def S_part : SpD := fun xs M Q => ∃ (t : Tm) (pl : List Nat) (r : Tm), xs = [t.enc, plD pl] ∧ t.partAt pl = some r ∧ ∀ M', MEx M M' → Q r.enc M'
def S_repl (n : Nat) : SpD := fun xs M Q => ∃ (t : Tm) (pl : List Nat) (r u : Tm), xs = [t.enc, plD pl, r.enc] ∧ pl.length < n ∧ t.partAt pl = some u ∧ ∀ M', MEx M M' → Q (t.repl pl r).enc M'
def S_isval (n : Nat) : SpD := fun xs M Q => ∃ (t : Tm), xs = [t.enc] ∧ t.dep ≤ n ∧ ∀ M', MEx M M' → Q (.bl t.isVal) M'
theorem part_of {t p : Tm} {i : Nat} (h : t.parts[i]? = some p) : t.isUse = true := by cases t <;> first | rfl | (simp [Tm.parts] at h)
theorem cal_part_by (G : Glb K mg) : Cal P w K mg base 1 "part_by" S_part [] := by
  refine cal_mk (ps := ["term", "place"]) G.d_part_by (fun _ _ _ _ _ _ us hl => match us, hl with | [_, _], _ => rfl) sc_part_by (fun xs M Q h => by obtain ⟨t, pl, r, rfl, _⟩ := h; rfl) fun f cdv A outer s H E hr => ⟨_, (pss_cons (ps_for PassesOwn.never rfl (pi_tupK (K := K) rfl (pv 1)) (pg_name (i := 2) sc_part_by.nd rfl (.inl rfl))
        (pss_one (ps_set (i := 0) sc_part_by.nd rfl (.inl rfl) (pe_ix (ix_tupK (K := K) rfl) (pv 0) (pe_op op_add (pv 2) pe_int) (fun _ _ => rfl)))))
      (pss_one (ps_ret (pv 0)))), fun xs M Q h => ?_⟩
  obtain ⟨t, pl, r, rfl, hp, q⟩ := h
  refine ws_seq (ws_for (wi_tup (we_var rfl ⟨_, rfl, fun a => ⟨_, yl_tup, fun _ _ => True, fun i ds' M' => MEx M M' ∧ ∃ u : Tm, ds'[0]? = some (some u.enc) ∧ u.partAt (pl.drop i) = some r ∧ ds'.length = 3, keeps_tup, fun _ _ _ _ => True.intro, ⟨.refl, t, rfl, by simpa using hp, rfl⟩, fun i x ds' M' hx hi => ?_, fun ds' M' hi => ?_⟩⟩)))
  · obtain ⟨mx, u, e0, hu, hl⟩ := hi
    rw [List.getElem?_map, List.getElem?_map] at hx
    obtain ⟨j, hj, rfl⟩ : ∃ j, pl[i]? = some j ∧ x = .int (j : Int) := by
      cases e : pl[i]? with
      | none =>
        rw [e] at hx
        cases hx
      | some j =>
        rw [e] at hx
        cases hx
        exact ⟨j, rfl, rfl⟩
    have hlt := (List.getElem?_eq_some_iff.mp hj).1
    have hd : pl.drop i = j :: pl.drop (i + 1) := by
      rw [List.drop_eq_getElem_cons hlt, (List.getElem?_eq_some_iff.mp hj).2]
    rw [hd] at hu
    obtain ⟨v, hv, hr⟩ : ∃ v, u.parts[j]? = some v ∧ v.partAt (pl.drop (i + 1)) = some r := by
      cases e : u.parts[j]? with
      | none =>
        rw [Tm.partAt, e] at hu
        cases hu
      | some v =>
        rw [Tm.partAt, e] at hu
        exact ⟨v, rfl, hu⟩
    have huse := part_of hv
    rw [Tm.enc_use huse] at e0
    match ds', hl, e0 with
    | [_, b, c], _, e0 =>
      cases e0
      walk_at "d"
      have e2 : ((j : Int) + 1) = ((j + 1 : Nat) : Int) := by omega
      rw [e2]
      refine rv_ixT (atI_nat (by rw [List.getElem?_cons_succ, List.getElem?_map, hv]; rfl)) ?_
      walk_at "d"
      exact ⟨mx, v, rfl, hr, rfl⟩
  · obtain ⟨mx, u, e0, hu, hl⟩ := hi
    have h0 : pl.drop ((pl.map fun n => ((n : Nat) : Int)).map Dv.int).length = [] := by simp
    rw [h0] at hu
    cases hu
    refine ws_ret (we_var e0 ?_)
    exact q M' mx
theorem step_is_value_by (G : Glb K mg) {n : Nat} (c_is_value_by : Cal P w K mg base n "is_value_by" (S_isval n) []) : Cal P w K mg base (n + 1) "is_value_by" (S_isval (n + 1)) [] := by
  refine cal_mk (ps := ["term"]) G.d_is_value_by (fun _ _ _ _ _ _ us hl => match us, hl with | [_], _ => rfl) sc_is_value_by (fun xs M Q h => by obtain ⟨t, rfl, _⟩ := h; rfl) fun f cdv A outer s H E hr => ⟨_, (pss_cons (ps_if (pt_cmpR op_eq (pe_ix (ix_tupK (K := K) rfl) (pv 0) pe_int (fun _ _ => rfl)) pe_str (nomark _))
        (pss_one (ps_ret (pe_and (pe_cal c_is_value_by hr (by omega) ⟨rfl, rfl, rfl, rfl, rfl⟩ rfl (pa_cons (pe_ix (ix_tupK (K := K) rfl) (pv 0) pe_int (fun _ _ => rfl)) pa_nil)) (pe_one (pe_cal c_is_value_by hr (by omega) ⟨rfl, rfl, rfl, rfl, rfl⟩ rfl (pa_cons (pe_ix (ix_tupK (K := K) rfl) (pv 0) pe_int (fun _ _ => rfl)) pa_nil))))))
        pss_nil)
      (pss_one (ps_ret (pe_cmpR (op_inK (K := K) rfl) (pe_ix (ix_tupK (K := K) rfl) (pv 0) pe_int (fun _ _ => rfl)) (pe_tup (pa_cons pe_str (pa_cons pe_str (pa_cons pe_str (pa_cons pe_str pa_nil))))) (by rfl))))), fun xs M Q h => ?_⟩
  obtain ⟨t, rfl, hd, q⟩ := h
  cases t with
  | u2 w a b =>
    cases w with
    | pair =>
      simp only [Tm.enc] at q ⊢
      walk_at "d"
      refine ⟨a, rfl, by simp [Tm.dep] at hd; omega, fun M2 h2 => ?_⟩
      walk_at "d"
      refine ⟨fun e => ?_, fun e => ?_⟩
      · walk_at "d"
        refine ⟨b, rfl, by simp [Tm.dep] at hd; omega, fun M3 h3 => ?_⟩
        have q' := q M3 (h2.trans h3)
        rw [Tm.isVal, e] at q'
        exact q'
      · have q' := q M2 h2
        rw [Tm.isVal, e] at q'
        exact q'
    | _ =>
      simp only [Tm.enc] at q ⊢
      walk_at "d"
      exact q M .refl
  | u1 w a =>
    cases w <;>
    · simp only [Tm.enc] at q ⊢
      walk_at "d"
      exact q M .refl
  | _ =>
    simp only [Tm.enc] at q ⊢
    walk_at "d"
    exact q M .refl
end
end FS
set_option maxHeartbeats 4000000
namespace FS
open PySem PySem.Spec PyProof.Rows L2
local macro_rules | `(tactic| walk_at "t") => `(tactic| exact use_hole (by assumption))
local macro_rules | `(tactic| walk_at "t") => `(tactic| exact use_at (by assumption))
local macro_rules | `(tactic| walk_at "t") => `(tactic| exact use_name (by assumption))
local macro_rules | `(tactic| walk_at "t") => `(tactic| exact use_num (by assumption))
local macro_rules | `(tactic| walk_at "t") => `(tactic| exact leaf_leaves (by assumption))
local macro_rules | `(tactic| walk_at "t") => `(tactic| exact use_leaves (by assumption))
local macro_rules | `(tactic| walk_at "t") => `(tactic| assumption)
local macro_rules | `(tactic| walk_at "t") => `(tactic| decide +kernel)
local macro_rules | `(tactic| walk_at "t") => `(tactic| rfl)
local macro_rules | `(tactic| walk_at "d1") => `(tactic| ((with_reducible refine rv_fdiv ?h1 ?_); (case h1 => exact ⟨by decide, by decide⟩)))
local macro_rules | `(tactic| walk_at "d1") => `(tactic| ((with_reducible refine rv_mod ?h1 ?_); (case h1 => (show (0 : Int) < _; decide))))
local macro_rules | `(tactic| walk_at "d1") => `(tactic| (with_reducible refine we_call (dxs := [.int 0]) (fun H => .cons (.int 0) .nil) ?_))
local macro_rules | `(tactic| walk_at "d1") => `(tactic| ((with_reducible refine' we_c ?h1 ?_); (case h1 => assumption)))
local macro_rules | `(tactic| walk_at "d1") => `(tactic| (with_reducible refine wt_yes ?_))
local macro_rules | `(tactic| walk_at "d1") => `(tactic| (with_reducible refine wg_name ?_))
local macro_rules | `(tactic| walk_at "d1") => `(tactic| (with_reducible refine rv_ix3 ?_))
local macro_rules | `(tactic| walk_at "d1") => `(tactic| (with_reducible refine rv_ix2 ?_))
local macro_rules | `(tactic| walk_at "d1") => `(tactic| (with_reducible refine rv_notN ?_))
local macro_rules | `(tactic| walk_at "d1") => `(tactic| (with_reducible refine rv_isN ?_))
local macro_rules | `(tactic| walk_at "d1") => `(tactic| (with_reducible refine rv_neS ?_))
local macro_rules | `(tactic| walk_at "d1") => `(tactic| (with_reducible refine rv_ge ?_))
local macro_rules | `(tactic| walk_at "d1") => `(tactic| (with_reducible refine rv_gt ?_))
local macro_rules | `(tactic| walk_at "d1") => `(tactic| (with_reducible refine rv_le ?_))
local macro_rules | `(tactic| walk_at "d1") => `(tactic| (with_reducible refine rv_sub ?_))
local macro_rules | `(tactic| walk_at "d1") => `(tactic| (with_reducible refine wo_some ?_))
local macro_rules | `(tactic| walk_at "d1") => `(tactic| (with_reducible refine wo_none ?_))
local macro_rules | `(tactic| walk_at "d1") => `(tactic| (with_reducible refine we_then ?_))
local macro_rules | `(tactic| walk_at "d1") => `(tactic| (with_reducible refine we_un ?_))
local macro_rules | `(tactic| walk_at "d1") => `(tactic| (with_reducible refine we_chain ?_))
local macro_rules | `(tactic| walk_at "d1") => `(tactic| (with_reducible refine we_if ?_))
local macro_rules | `(tactic| walk_at "d1") => `(tactic| (with_reducible refine we_not ?_))
local macro_rules | `(tactic| walk_at "d1") => `(tactic| (with_reducible refine we_or ?_))
local macro_rules | `(tactic| walk_at "d1") => `(tactic| (with_reducible refine we_and ?_))
local macro_rules | `(tactic| walk_at "d1") => `(tactic| (with_reducible refine wt_not ?_))
local macro_rules | `(tactic| walk_at "d1") => `(tactic| (with_reducible refine wt_B ?_))
local macro_rules | `(tactic| walk_at "d1") => `(tactic| (with_reducible refine we_slT ?_))
local macro_rules | `(tactic| walk_at "d1") => `(tactic| (with_reducible refine we_lst ?_))
local macro_rules | `(tactic| walk_at "d1") => `(tactic| (with_reducible refine we_ty ?_))
local macro_rules | `(tactic| walk_at "d1") => `(tactic| (with_reducible refine we_non ?_))
local macro_rules | `(tactic| walk_at "d1") => `(tactic| (with_reducible refine we_bl ?_))
local macro_rules | `(tactic| walk_at "d1") => `(tactic| (with_reducible refine ws_asg ?_))
local macro_rules | `(tactic| walk_at "d1") => `(tactic| (with_reducible refine ws_par3 ?_))
local macro_rules | `(tactic| walk_at "d1") => `(tactic| (with_reducible refine ws_par ?_))
local macro_rules | `(tactic| walk_at "d1") => `(tactic| (with_reducible refine ws_drop ?_))
local macro_rules | `(tactic| walk_at "d1") => `(tactic| (with_reducible refine ru_neg ?_))
local macro_rules | `(tactic| walk_at "d1") => `(tactic| (with_reducible refine rl_isi_bb ?_))
local macro_rules | `(tactic| walk_at "d1") => `(tactic| (with_reducible refine rl_isi_bt ?_))
local macro_rules | `(tactic| walk_at "d1") => `(tactic| (with_reducible refine rl_isi_sb ?_))
local macro_rules | `(tactic| walk_at "d1") => `(tactic| (with_reducible refine rl_isi_st ?_))
local macro_rules | `(tactic| walk_at "d1") => `(tactic| (with_reducible refine rl_isi_is ?_))
local macro_rules | `(tactic| walk_at "d1") => `(tactic| (with_reducible refine rl_isi_it ?_))
local macro_rules | `(tactic| walk_at "d1") => `(tactic| (with_reducible refine rl_isi_ib ?_))
local macro_rules | `(tactic| walk_at "d1") => `(tactic| (with_reducible refine rl_isi_ii ?_))
local macro_rules | `(tactic| walk_at "d1") => `(tactic| (with_reducible refine rl_isi_ss ?_))
local macro_rules | `(tactic| walk_at "d1") => `(tactic| (with_reducible refine rl_isi_tt ?_))
local macro_rules | `(tactic| walk_at "d1") => `(tactic| (with_reducible refine rl_abs ?_))
local macro_rules | `(tactic| walk_at "d1") => `(tactic| (with_reducible refine rl_int ?_))
local macro_rules | `(tactic| walk_at "d1") => `(tactic| (with_reducible refine wt_or ?_))
local macro_rules | `(tactic| walk_at "d1") => `(tactic| (with_reducible refine rv_lt ?_))
local macro_rules | `(tactic| walk_at "d1") => `(tactic| (with_reducible refine rv_add ?_))
local macro_rules | `(tactic| walk_at "d1") => `(tactic| (with_reducible refine we_cb ?_))
local macro_rules | `(tactic| walk_at "d1") => `(tactic| (with_reducible refine ws_set ?_))
local macro_rules | `(tactic| walk_at "d1") => `(tactic| (with_reducible refine rv_ix1 ?_))
local macro_rules | `(tactic| walk_at "d1") => `(tactic| (with_reducible refine wt_and ?_))
local macro_rules | `(tactic| walk_at "d1") => `(tactic| (with_reducible refine we_call0 ?_))
local macro_rules | `(tactic| walk_at "d1") => `(tactic| ((with_reducible refine br_t ?h1 ?_); (case h1 => walk_at "t")))
local macro_rules | `(tactic| walk_at "d1") => `(tactic| ((with_reducible refine rv_inT ?a1 ?a2 ?_); (case a1 => rfl); (case a2 => first | rfl | decide +kernel)))
local macro_rules | `(tactic| walk_at "d1") => `(tactic| ((with_reducible refine len_and ?h1 ?_); (case h1 => first | decide | (simp; done) | (simp; omega))))
local macro_rules | `(tactic| walk_at "d1") => `(tactic| ((with_reducible refine br_f ?h1 ?_); (case h1 => walk_at "t")))
local macro_rules | `(tactic| walk_at "d1") => `(tactic| (with_reducible refine ⟨_, rfl, ?_⟩))
local macro_rules | `(tactic| walk_at "d1") => `(tactic| (with_reducible refine ws_ret ?_))
local macro_rules | `(tactic| walk_at "d1") => `(tactic| (with_reducible refine rv_eqS ?_))
local macro_rules | `(tactic| walk_at "d1") => `(tactic| (with_reducible refine we_tup ?_))
local macro_rules | `(tactic| walk_at "d1") => `(tactic| (with_reducible refine rv_ix0 ?_))
local macro_rules | `(tactic| walk_at "d1") => `(tactic| (with_reducible refine ws_next ?_))
local macro_rules | `(tactic| walk_at "d1") => `(tactic| (with_reducible refine ws_if ?_))
local macro_rules | `(tactic| walk_at "d1") => `(tactic| (with_reducible refine wt_test ?_))
local macro_rules | `(tactic| walk_at "d1") => `(tactic| (with_reducible refine ws_seq ?_))
local macro_rules | `(tactic| walk_at "d1") => `(tactic| (with_reducible refine wa_nil ?_))
local macro_rules | `(tactic| walk_at "d1") => `(tactic| (with_reducible refine we_int ?_))
local macro_rules | `(tactic| walk_at "d1") => `(tactic| (with_reducible refine we_str ?_))
local macro_rules | `(tactic| walk_at "d1") => `(tactic| (with_reducible refine we_op ?_))
local macro_rules | `(tactic| walk_at "d1") => `(tactic| ((with_reducible refine' we_var ?h1 ?_); (case h1 => exact rfl)))
local macro_rules | `(tactic| walk_at "d1") => `(tactic| (with_reducible refine wa_cons ?_))
local macro_rules | `(tactic| walk_at "d") => `(tactic| repeat (walk_at "d1"))
theorem sc_names_met : FnScope ["words", "term", "outward", "found", "name", "part", "many"] ["words", "term", "outward", "found"] (defScope s_names_met) := ⟨rfl, rfl, rfl, by decide +kernel, rfl, by decide +kernel, by decide +kernel⟩
theorem sc_free_by : FnScope ["words", "term", "found"] ["words", "term"] (defScope s_free_by) := ⟨rfl, rfl, rfl, by decide +kernel, rfl, by decide +kernel, by decide +kernel⟩
theorem sc_ats_met : FnScope ["term", "found", "part"] ["term", "found"] (defScope s_ats_met) := ⟨rfl, rfl, rfl, by decide +kernel, rfl, by decide +kernel, by decide +kernel⟩
theorem sc_ats_by : FnScope ["term", "found"] ["term"] (defScope s_ats_by) := ⟨rfl, rfl, rfl, by decide +kernel, rfl, by decide +kernel, by decide +kernel⟩
theorem cut_to (xs : List Dv) (n : Nat) : cutD xs none (some (n : Int)) = xs.take n := by
  unfold cutD
  rw [HT.sIx_none, HT.sIx_nat]
  simp only [List.drop_zero, Nat.sub_zero]
  rw [List.take_eq_take_iff]
  omega
theorem cut_from (xs : List Dv) (n : Nat) : cutD xs (some (n : Int)) none = xs.drop n := by
  unfold cutD
  rw [HT.sIx_none, HT.sIx_nat]
  by_cases h : n ≤ xs.length
  · rw [Nat.min_eq_left h, List.take_of_length_le (by rw [List.length_drop]; omega)]
  · rw [Nat.min_eq_right (by omega), List.drop_eq_nil_of_le (Nat.le_refl _), List.drop_eq_nil_of_le (by omega)]
    simp
theorem setP_enc {t p : Tm} {i : Nat} (h : t.parts[i]? = some p) (x : Tm) : (t.setP i x).enc = .tup (((Dv.str t.word :: t.parts.map Tm.enc).take (i + 1) ++ [x.enc]) ++ (Dv.str t.word :: t.parts.map Tm.enc).drop (i + 2)) := by
  cases t with
  | u1 w a => match i, h with
    | 0, _ => rfl
    | i + 1, h => simp [Tm.parts] at h
  | u2 w a b => match i, h with
    | 0, _ => rfl
    | 1, _ => rfl
    | i + 2, h => simp [Tm.parts] at h
  | u3 a b c => match i, h with
    | 0, _ => rfl
    | 1, _ => rfl
    | 2, _ => rfl
    | i + 3, h => simp [Tm.parts] at h
  | _ => simp [Tm.parts] at h
section
variable {P : Program} {w : World} {K : PySem.W.Frag} {mg : Str → Option Value} {base : Heap}
theorem step_replaced_by (G : Glb K mg) {n : Nat} (c_replaced_by : Cal P w K mg base n "replaced_by" (S_repl n) []) : Cal P w K mg base (n + 1) "replaced_by" (S_repl (n + 1)) [] := by
  refine cal_mk (ps := ["term", "place", "part"]) G.d_replaced_by (fun _ _ _ _ _ _ us hl => match us, hl with | [_, _, _], _ => rfl) sc_replaced_by (fun xs M Q h => by obtain ⟨t, pl, r, u, rfl, _⟩ := h; rfl) fun f cdv A outer s H E hr => ⟨_, (pss_cons (ps_if (pt_cmpR (op_eqDK (K := K) rfl hr.units) (pv 1) (pe_tup pa_nil) (nomark _))
        (pss_one (ps_ret (pv 2)))
        pss_nil)
      (pss_cons (ps_set (i := 3) sc_replaced_by.nd rfl (.inl rfl) (pe_cal c_replaced_by hr (by omega) ⟨rfl, rfl, rfl, rfl, rfl⟩ rfl (pa_cons (pe_ix (ix_tupK (K := K) rfl) (pv 0) (pe_op op_add (pe_ix (ix_tupK (K := K) rfl) (pv 1) pe_int (fun _ _ => rfl)) pe_int) (fun _ _ => rfl)) (pa_cons (pe_slice (sl_tupK (K := K) rfl) (pv 1) (po_some pe_int) po_none) (pa_cons (pv 2) pa_nil)))))
      (pss_one (ps_ret (pe_op (op_catK (K := K) rfl) (pe_op (op_catK (K := K) rfl) (pe_slice (sl_tupK (K := K) rfl) (pv 0) po_none (po_some (pe_op op_add (pe_ix (ix_tupK (K := K) rfl) (pv 1) pe_int (fun _ _ => rfl)) pe_int))) (pe_tup (pa_cons (pv 3) pa_nil))) (pe_slice (sl_tupK (K := K) rfl) (pv 0) (po_some (pe_op op_add (pe_ix (ix_tupK (K := K) rfl) (pv 1) pe_int (fun _ _ => rfl)) pe_int)) po_none)))))), fun xs M Q h => ?_⟩
  obtain ⟨t, pl, r, u, rfl, hl, hp, q⟩ := h
  unfold plD
  walk_at "d"
  refine rv_eqT0 ?_
  walk_at "d"
  cases pl with
  | nil =>
    refine br_t rfl ?_
    walk_at "d"
    exact q M .refl
  | cons i is =>
    refine br_f rfl ?_
    obtain ⟨v, hv, hu⟩ : ∃ v, t.parts[i]? = some v ∧ v.partAt is = some u := by
      cases e : t.parts[i]? with
      | none =>
        rw [Tm.partAt, e] at hp
        cases hp
      | some v =>
        rw [Tm.partAt, e] at hp
        exact ⟨v, rfl, hp⟩
    have huse := part_of hv
    have hi : i < t.parts.length := (List.getElem?_eq_some_iff.mp hv).1
    have h3 := parts_3 t
    rw [Tm.enc_use huse]
    simp only [List.map_cons]
    walk_at "d"
    have e1 : ((i : Int) + 1) = ((i + 1 : Nat) : Int) := by omega
    have e2 : ((i : Int) + 2) = ((i + 2 : Nat) : Int) := by omega
    rw [e1]
    refine rv_ixT (d := v.enc) (atI_nat (by rw [List.getElem?_cons_succ, List.getElem?_map, hv]; rfl)) ?_
    walk_at "d"
    rw [cut1]
    refine ⟨v, is, r, u, rfl, by simpa using hl, hu, fun M2 h2 => ?_⟩
    walk_at "d"
    rw [e1, cut_to]
    refine rv_catT (by simp; omega) ?_
    walk_at "d"
    rw [e2, cut_from]
    refine rv_catT (by simp; omega) ?_
    have q' := q M2 h2
    rw [Tm.repl, hv] at q'
    have e3 := setP_enc hv (v.repl is r)
    rw [e3] at q'
    exact q'
def S_names (n : Nat) : SpD := fun xs M Q => ∃ (t : Tm) (d : Nat) (p : Addr), xs = [.core, t.enc, .int (d : Int), .adr p] ∧ t.cl d = true ∧ t.dep ≤ n ∧ ∀ M', MEx M M' → Q .non M'
theorem step_names_met (G : Glb K mg) {n : Nat} (c_parts_with_names : Cal P w K mg base 1 "parts_with_names" S_pwn []) (c_names_met : Cal P w K mg base (n + 1) "names_met" (S_names n) []) : Cal P w K mg base (n + 2) "names_met" (S_names (n + 1)) [] := by
  obtain ⟨aLEAVES, mLEAVES, tL⟩ := G.k_LEAVES
  refine cal_mk (ps := ["words", "term", "outward", "found"]) G.d_names_met (fun _ _ _ _ _ _ us hl => match us, hl with | [_, _, _, _], _ => rfl) sc_names_met (fun xs M Q h => by obtain ⟨t, d, p, rfl, _⟩ := h; rfl) fun f cdv A outer s H E hr => ⟨_, (pss_one (ps_if (pt_cmpR op_eq (pe_ix (ix_tupK (K := K) rfl) (pv 1) pe_int (fun _ _ => rfl)) pe_str (nomark _))
        (pss_one (ps_if (pt_cmpR op_ge (pe_ix (ix_tupK (K := K) rfl) (pv 1) pe_int (fun _ _ => rfl)) (pv 2) (nomark _))
          (pss_one (ps_dput (hu_of hr) (pv 3) (pe_op op_sub (pe_ix (ix_tupK (K := K) rfl) (pv 1) pe_int (fun _ _ => rfl)) (pv 2)) pe_bl rfl))
          pss_nil))
        (pss_one (ps_if (pt_cmpR op_eq (pe_ix (ix_tupK (K := K) rfl) (pv 1) pe_int (fun _ _ => rfl)) pe_str (nomark _))
          (pss_one (ps_for PassesOwn.never rfl (pi_tupK (K := K) rfl (pe_slice (sl_tupK (K := K) rfl) (pv 1) (po_some pe_int) po_none)) (pg_name (i := 4) sc_names_met.nd rfl (.inl rfl))
            (pss_one (ps_if (pt_cmpR op_ge (pv 4) (pv 2) (nomark _))
              (pss_one (ps_dput (hu_of hr) (pv 3) (pe_op op_sub (pv 4) (pv 2)) pe_bl rfl))
              pss_nil))))
          (pss_one (ps_if (pt_cmpR (op_niK (K := K) rfl) (pe_ix (ix_tupK (K := K) rfl) (pv 1) pe_int (fun _ _ => rfl)) (pe_glob (v := .ref aLEAVES) rfl mLEAVES rfl) (by rfl))
            (pss_one (ps_for PassesOwn.never rfl (pi_listK (K := K) rfl (pe_cal c_parts_with_names hr (by omega) ⟨rfl, rfl, rfl, rfl, rfl⟩ rfl (pa_cons (pv 0) (pa_cons (pv 1) pa_nil)))) (pg_tupK (K := K) (n := 2) rfl rfl (pgs_cons (pg_name (i := 5) sc_names_met.nd rfl (.inl rfl)) (pgs_cons (pg_name (i := 6) sc_names_met.nd rfl (.inl rfl)) pgs_nil)) (by rfl) (by rfl))
              (pss_one (ps_expr (pe_cal c_names_met hr (by omega) ⟨rfl, rfl, rfl, rfl, rfl⟩ rfl (pa_cons (pv 0) (pa_cons (pv 5) (pa_cons (pe_op op_add (pv 2) (pv 6)) (pa_cons (pv 3) pa_nil)))))))))
            pss_nil)))))), fun xs M Q h => ?_⟩
  obtain ⟨t, d, p, rfl, hc, hd, q⟩ := h
  cases hu : t.isUse with
  | false =>
    cases t with
    | name k =>
      have hk : k < d := by simpa [Tm.cl] using hc
      simp only [Tm.enc] at q ⊢
      walk_at "d"
      refine br_f (decide_eq_false (by omega)) ?_
      walk_at "d"
      exact q M .refl
    | num k =>
      simp only [Tm.enc] at q ⊢
      walk_at "d"
      refine rv_niT rfl (by decide +kernel) ?_
      walk_at "d"
      exact q M .refl
    | «at» k =>
      simp only [Tm.enc] at q ⊢
      walk_at "d"
      refine rv_niT rfl (by decide +kernel) ?_
      walk_at "d"
      exact q M .refl
    | _ => cases hu
  | true =>
    rw [Tm.enc_use hu]
    walk_at "d"
    refine rv_niT rfl (by decide +kernel) ?_
    walk_at "d"
    refine br_t (by rw [use_leaves hu]; rfl) ?_
    refine ws_forPB (t := t) (fun M1 n ds' M' => MEx M M1 ∧ MEx M1 M' ∧ ∃ a b, ds' = [some .core, some (.tup (.str t.word :: t.parts.map Tm.enc)), some (.int (d : Int)), some (.adr p), none, a, b]) ?_ ?_ ?_
    · walk_at "d"
      rw [← Tm.enc_use hu]
      exact ⟨t, rfl, hu, fun M2 r h1 h2 => ⟨r, rfl, h2, ⟨h1, .refl, none, none, rfl⟩, fun n ds' M3 h3 => h3.2.1⟩⟩
    · rintro M1 n r ds' M2 hr ⟨h1, hM, a, b, rfl⟩
      walk_at "d"
      have hm := List.mem_of_getElem? hr
      exact ⟨r.1, d + r.2, p, rfl, Tm.cl_zip hc r hm, by have := Tm.zip_dep hm; omega, fun M' h => ⟨h1, hM.trans h, _, _, rfl⟩⟩
    · rintro M1 ds' M2 ⟨h1, hM, a, b, rfl⟩
      exact q M2 (h1.trans hM)
def S_free (n : Nat) : SpD := fun xs M Q => ∃ t : Tm, xs = [.core, t.enc] ∧ t.cl 0 = true ∧ t.dep ≤ n ∧ ∀ M', MEx M M' → Q (.tup []) M'
theorem cal_free_by (G : Glb K mg) {n : Nat} (c_names_met : Cal P w K mg base (n + 1) "names_met" (S_names n) []) : Cal P w K mg base (n + 2) "free_by" (S_free n) [] := by
  refine cal_mk (ps := ["words", "term"]) G.d_free_by (fun _ _ _ _ _ _ us hl => match us, hl with | [_, _], _ => rfl) sc_free_by (fun xs M Q h => by obtain ⟨t, rfl, _⟩ := h; rfl) fun f cdv A outer s H E hr => ⟨_, (pss_cons (ps_set (i := 2) sc_free_by.nd rfl (.inl rfl) pe_dnewK)
      (pss_cons (ps_expr (pe_cal c_names_met hr (by omega) ⟨rfl, rfl, rfl, rfl, rfl⟩ rfl (pa_cons (pv 0) (pa_cons (pv 1) (pa_cons pe_int (pa_cons (pv 2) pa_nil))))))
      (pss_one (ps_ret (pe_tupleK (K := K) rfl rfl G.b_tuple (pe_callB (call_sortedDI rfl) (by rfl) G.b_sorted (by decide +kernel) (pa_cons (pv 2) pa_nil))))))), fun xs M Q h => ?_⟩
  obtain ⟨t, rfl, hc, hd, q⟩ := h
  walk_at "d"
  refine we_dnew fun p np => ?_
  walk_at "d"
  refine ⟨t, 0, p, rfl, hc, hd, fun M2 h2 => ?_⟩
  walk_at "d"
  refine rl_sortD0 (h2 _ _ mupd_same) fun r nr => ?_
  walk_at "d"
  refine ru_tupL mupd_same ?_
  exact q _ (((MEx.new np).trans h2).trans (.new nr))
/-- the dict of the boxes met -/
def foundD (ks : List Nat) : List (Key × Dv) := ks.map fun (k : Nat) => (.inl (k : Int), .bl true)
theorem foundD_put (ks : List Nat) (k : Nat) : putD (foundD ks) (.inl (k : Int)) (.bl true) = foundD (Tm.addAt ks k) := by
  have ha : ((foundD ks).any fun kv => decide (kv.1 = Sum.inl (k : Int))) = decide (k ∈ ks) := by
    rw [Bool.eq_iff_iff, List.any_eq_true, decide_eq_true_iff]
    unfold foundD
    constructor
    · rintro ⟨q, hq, e⟩
      obtain ⟨j, hj, rfl⟩ := List.mem_map.mp hq
      have e' : (Sum.inl (j : Int) : Key) = Sum.inl (k : Int) := of_decide_eq_true e
      injection e' with e'
      have : j = k := by omega
      rw [← this]
      exact hj
    · intro h
      exact ⟨_, List.mem_map.mpr ⟨k, h, rfl⟩, decide_eq_true rfl⟩
  unfold putD Tm.addAt
  rw [ha]
  by_cases h : k ∈ ks
  · rw [if_pos (decide_eq_true h), if_pos h]
    unfold foundD
    rw [List.map_map]
    refine List.map_congr_left fun j _ => ?_
    show (if (Sum.inl (j : Int) : Key) = Sum.inl (k : Int) then _ else _) = _
    split <;> rfl
  · rw [if_neg (by simpa using h), if_neg h]
    unfold foundD
    rw [List.map_append]
    rfl
theorem foundD_keys (ks : List Nat) : ∀ q ∈ foundD ks, ∃ j, q.1 = Sum.inl j := fun q hq => by
  obtain ⟨j, _, rfl⟩ := List.mem_map.mp hq
  exact ⟨_, rfl⟩
/-- all but p stays -/
def MExB (p : Addr) (M M' : Mm) : Prop := ∀ a o, a ≠ p → M a = some o → M' a = some o
theorem MExB.refl {p : Addr} {M : Mm} : MExB p M M := fun _ _ _ h => h
theorem MExB.trans {p : Addr} {M M1 M2 : Mm} (a : MExB p M M1) (b : MExB p M1 M2) : MExB p M M2 := fun x o n h => b x o n (a x o n h)
theorem MExB.put {p : Addr} {M : Mm} {o : DObj} : MExB p M (mupd M p o) := fun a u n e => by rw [mupd_ne n]; exact e
/-- the boxes met are below m, so few -/
def S_ats (n m : Nat) : SpD := fun xs M Q => ∃ (t : Tm) (p : Addr) (ks : List Nat), xs = [t.enc, .adr p] ∧ M p = some (.dct (foundD ks)) ∧ ks.length + t.len ≤ m ∧ t.dep ≤ n ∧ ∀ M', MExB p M M' → M' p = some (.dct (foundD (t.atsF ks))) → Q .non M'
theorem addAt_len (ks : List Nat) (k : Nat) : (Tm.addAt ks k).length ≤ ks.length + 1 := by
  unfold Tm.addAt
  split <;> simp
theorem atsF_len (t : Tm) : ∀ ks, (t.atsF ks).length ≤ ks.length + t.len := by
  induction t with
  | num n => intro ks; simp [Tm.atsF]
  | name k => intro ks; simp [Tm.atsF]
  | «at» k => intro ks; exact addAt_len ks k
  | u1 w a ih => intro ks; have := ih ks; simp only [Tm.atsF, Tm.len]; omega
  | u2 w a b ih1 ih2 => intro ks; have h1 := ih1 ks; have h2 := ih2 (a.atsF ks); simp only [Tm.atsF, Tm.len]; omega
  | u3 a b c ih1 ih2 ih3 => intro ks; have h1 := ih1 ks; have h2 := ih2 (a.atsF ks); have h3 := ih3 (b.atsF (a.atsF ks)); simp only [Tm.atsF, Tm.len]; omega
/-- the boxes met in the first n parts -/
def atsN (t : Tm) (ks : List Nat) (n : Nat) : List Nat := (t.parts.take n).foldl (fun ks p => p.atsF ks) ks
theorem atsN_succ {t p : Tm} {ks : List Nat} {n : Nat} (h : t.parts[n]? = some p) : atsN t ks (n + 1) = p.atsF (atsN t ks n) := by
  unfold atsN
  have e : t.parts.take (n + 1) = t.parts.take n ++ [p] := by rw [List.take_add_one, h]; rfl
  rw [e, List.foldl_append]
  rfl
theorem atsN_len {t p : Tm} {ks : List Nat} {n : Nat} (h : t.parts[n]? = some p) : (atsN t ks n).length + p.len ≤ ks.length + t.len := by
  cases t with
  | u1 w a => match n, h with
    | 0, h => cases h; simp [atsN, Tm.len] <;> omega
    | n + 1, h => simp [Tm.parts] at h
  | u2 w a b => match n, h with
    | 0, h => cases h; simp [atsN, Tm.len] <;> omega
    | 1, h => cases h; have := atsF_len a ks; simp [atsN, Tm.len, Tm.parts] <;> omega
    | n + 2, h => simp [Tm.parts] at h
  | u3 a b c => match n, h with
    | 0, h => cases h; simp [atsN, Tm.len] <;> omega
    | 1, h => cases h; have := atsF_len a ks; simp [atsN, Tm.len, Tm.parts] <;> omega
    | 2, h => cases h; have := atsF_len a ks; have := atsF_len b (a.atsF ks); simp [atsN, Tm.len, Tm.parts] <;> omega
    | n + 3, h => simp [Tm.parts] at h
  | _ => simp [Tm.parts] at h
theorem atsN_end {t : Tm} {ks : List Nat} (h : t.isUse = true) : atsN t ks t.parts.length = t.atsF ks := by
  unfold atsN
  rw [List.take_length, Tm.atsF_use h]
theorem step_ats_met (G : Glb K mg) {n m : Nat} (hm : m < 1000000) (c_ats_met : Cal P w K mg base n "ats_met" (S_ats n m) []) : Cal P w K mg base (n + 1) "ats_met" (S_ats (n + 1) m) [] := by
  obtain ⟨aLEAVES, mLEAVES, tL⟩ := G.k_LEAVES
  refine cal_mk (ps := ["term", "found"]) G.d_ats_met (fun _ _ _ _ _ _ us hl => match us, hl with | [_, _], _ => rfl) sc_ats_met (fun xs M Q h => by obtain ⟨t, p, ks, rfl, _⟩ := h; rfl) fun f cdv A outer s H E hr => ⟨_, (pss_one (ps_if (pt_cmpR op_eq (pe_ix (ix_tupK (K := K) rfl) (pv 0) pe_int (fun _ _ => rfl)) pe_str (nomark _))
        (pss_one (ps_dput (hu_of hr) (pv 1) (pe_ix (ix_tupK (K := K) rfl) (pv 0) pe_int (fun _ _ => rfl)) pe_bl rfl))
        (pss_one (ps_if (pt_cmpR (op_niK (K := K) rfl) (pe_ix (ix_tupK (K := K) rfl) (pv 0) pe_int (fun _ _ => rfl)) (pe_glob (v := .ref aLEAVES) rfl mLEAVES rfl) (by rfl))
          (pss_one (ps_for PassesOwn.never rfl (pi_tupK (K := K) rfl (pe_slice (sl_tupK (K := K) rfl) (pv 0) (po_some pe_int) po_none)) (pg_name (i := 2) sc_ats_met.nd rfl (.inl rfl))
            (pss_one (ps_expr (pe_cal c_ats_met hr (by omega) ⟨rfl, rfl, rfl, rfl, rfl⟩ rfl (pa_cons (pv 2) (pa_cons (pv 1) pa_nil)))))))
          pss_nil)))), fun xs M Q h => ?_⟩
  obtain ⟨t, p, ks, rfl, hp, hl, hd, q⟩ := h
  cases hu : t.isUse with
  | false =>
    cases t with
    | name k =>
      simp only [Tm.enc] at q ⊢
      walk_at "d"
      refine rv_niT rfl (by decide +kernel) ?_
      walk_at "d"
      exact q M .refl hp
    | num k =>
      simp only [Tm.enc] at q ⊢
      walk_at "d"
      refine rv_niT rfl (by decide +kernel) ?_
      walk_at "d"
      exact q M .refl hp
    | «at» k =>
      simp only [Tm.enc] at q ⊢
      walk_at "d"
      refine ws_dput ?_
      walk_at "d"
      refine ⟨p, _, _, rfl, rfl, hp, foundD_keys ks, by have : (foundD ks).length = ks.length := List.length_map _; omega, ?_⟩
      rw [foundD_put]
      exact q _ .put mupd_same
    | _ => cases hu
  | true =>
    rw [Tm.enc_use hu]
    walk_at "d"
    refine rv_niT rfl (by decide +kernel) ?_
    walk_at "d"
    refine br_t (by rw [use_leaves hu]; rfl) ?_
    refine ws_forParts (t := t) (fun n ds' M' => MExB p M M' ∧ M' p = some (.dct (foundD (atsN t ks n))) ∧ ∃ a, ds' = [some (.tup (.str t.word :: t.parts.map Tm.enc)), some (.adr p), a]) rfl ⟨.refl, hp, none, rfl⟩ ?_ ?_
    · rintro n r ds' M2 hr ⟨hM, hp2, a, rfl⟩
      walk_at "d"
      have hmem := List.mem_of_getElem? hr
      refine ⟨r, p, _, rfl, hp2, Nat.le_trans (atsN_len hr) hl, by have := Tm.dep_part hmem; omega, fun M' h h' => ⟨hM.trans h, ?_, _, rfl⟩⟩
      rw [atsN_succ hr]
      exact h'
    · rintro ds' M2 ⟨hM, hp2, a, rfl⟩
      rw [atsN_end hu] at hp2
      exact q M2 hM hp2
def atsT (ks : List Nat) : Dv := .tup ((ks.map fun n => ((n : Nat) : Int)).map .int)
def S_atsby (n m : Nat) : SpD := fun xs M Q => ∃ (t : Tm), xs = [t.enc] ∧ t.len ≤ m ∧ t.dep ≤ n ∧ ∀ M', MEx M M' → Q (atsT (t.atsF [])) M'
theorem cal_ats_by (G : Glb K mg) {n m : Nat} (c_ats_met : Cal P w K mg base n "ats_met" (S_ats n m) []) : Cal P w K mg base (n + 1) "ats_by" (S_atsby n m) [] := by
  refine cal_mk (ps := ["term"]) G.d_ats_by (fun _ _ _ _ _ _ us hl => match us, hl with | [_], _ => rfl) sc_ats_by (fun xs M Q h => by obtain ⟨t, rfl, _⟩ := h; rfl) fun f cdv A outer s H E hr => ⟨_, (pss_cons (ps_set (i := 1) sc_ats_by.nd rfl (.inl rfl) pe_dnewK)
      (pss_cons (ps_expr (pe_cal c_ats_met hr (by omega) ⟨rfl, rfl, rfl, rfl, rfl⟩ rfl (pa_cons (pv 0) (pa_cons (pv 1) pa_nil))))
      (pss_one (ps_ret (pe_callTy (cr_tupD rfl) (by rfl) G.b_tuple (by decide +kernel) (pa_cons (pv 1) pa_nil)))))), fun xs M Q h => ?_⟩
  obtain ⟨t, rfl, hl, hd, q⟩ := h
  walk_at "d"
  refine we_dnew fun p np => ?_
  walk_at "d"
  refine ⟨t, p, [], rfl, mupd_same, by simpa using hl, hd, fun M2 h2 h3 => ?_⟩
  walk_at "d"
  refine rl_tupD h3 ?_
  have e : ((foundD (t.atsF [])).map fun kv => keyD kv.1) = ((t.atsF []).map fun n => ((n : Nat) : Int)).map .int := by
    unfold foundD
    rw [List.map_map, List.map_map]
    rfl
  rw [e]
  exact q M2 fun a o h => h2 a o (fun z => by rw [z, np] at h; cases h) (MEx.new np a o h)
end
end FS
set_option maxHeartbeats 4000000
namespace FS
open PySem PySem.Spec PyProof.Rows L2
local macro_rules | `(tactic| walk_at "t") => `(tactic| exact use_hole (by assumption))
local macro_rules | `(tactic| walk_at "t") => `(tactic| exact use_at (by assumption))
local macro_rules | `(tactic| walk_at "t") => `(tactic| exact use_name (by assumption))
local macro_rules | `(tactic| walk_at "t") => `(tactic| exact use_num (by assumption))
local macro_rules | `(tactic| walk_at "t") => `(tactic| exact leaf_leaves (by assumption))
local macro_rules | `(tactic| walk_at "t") => `(tactic| exact use_leaves (by assumption))
local macro_rules | `(tactic| walk_at "t") => `(tactic| assumption)
local macro_rules | `(tactic| walk_at "t") => `(tactic| decide +kernel)
local macro_rules | `(tactic| walk_at "t") => `(tactic| rfl)
local macro_rules | `(tactic| walk_at "d1") => `(tactic| ((with_reducible refine rv_fdiv ?h1 ?_); (case h1 => exact ⟨by decide, by decide⟩)))
local macro_rules | `(tactic| walk_at "d1") => `(tactic| ((with_reducible refine rv_mod ?h1 ?_); (case h1 => (show (0 : Int) < _; decide))))
local macro_rules | `(tactic| walk_at "d1") => `(tactic| (with_reducible refine we_call (dxs := [.int 0]) (fun H => .cons (.int 0) .nil) ?_))
local macro_rules | `(tactic| walk_at "d1") => `(tactic| ((with_reducible refine' we_c ?h1 ?_); (case h1 => assumption)))
local macro_rules | `(tactic| walk_at "d1") => `(tactic| (with_reducible refine wt_yes ?_))
local macro_rules | `(tactic| walk_at "d1") => `(tactic| (with_reducible refine wg_name ?_))
local macro_rules | `(tactic| walk_at "d1") => `(tactic| (with_reducible refine rv_ix3 ?_))
local macro_rules | `(tactic| walk_at "d1") => `(tactic| (with_reducible refine rv_ix2 ?_))
local macro_rules | `(tactic| walk_at "d1") => `(tactic| (with_reducible refine rv_notN ?_))
local macro_rules | `(tactic| walk_at "d1") => `(tactic| (with_reducible refine rv_isN ?_))
local macro_rules | `(tactic| walk_at "d1") => `(tactic| (with_reducible refine rv_neS ?_))
local macro_rules | `(tactic| walk_at "d1") => `(tactic| (with_reducible refine rv_ge ?_))
local macro_rules | `(tactic| walk_at "d1") => `(tactic| (with_reducible refine rv_gt ?_))
local macro_rules | `(tactic| walk_at "d1") => `(tactic| (with_reducible refine rv_le ?_))
local macro_rules | `(tactic| walk_at "d1") => `(tactic| (with_reducible refine rv_sub ?_))
local macro_rules | `(tactic| walk_at "d1") => `(tactic| (with_reducible refine wo_some ?_))
local macro_rules | `(tactic| walk_at "d1") => `(tactic| (with_reducible refine wo_none ?_))
local macro_rules | `(tactic| walk_at "d1") => `(tactic| (with_reducible refine we_then ?_))
local macro_rules | `(tactic| walk_at "d1") => `(tactic| (with_reducible refine we_un ?_))
local macro_rules | `(tactic| walk_at "d1") => `(tactic| (with_reducible refine we_chain ?_))
local macro_rules | `(tactic| walk_at "d1") => `(tactic| (with_reducible refine we_if ?_))
local macro_rules | `(tactic| walk_at "d1") => `(tactic| (with_reducible refine we_not ?_))
local macro_rules | `(tactic| walk_at "d1") => `(tactic| (with_reducible refine we_or ?_))
local macro_rules | `(tactic| walk_at "d1") => `(tactic| (with_reducible refine we_and ?_))
local macro_rules | `(tactic| walk_at "d1") => `(tactic| (with_reducible refine wt_not ?_))
local macro_rules | `(tactic| walk_at "d1") => `(tactic| (with_reducible refine wt_B ?_))
local macro_rules | `(tactic| walk_at "d1") => `(tactic| (with_reducible refine we_slT ?_))
local macro_rules | `(tactic| walk_at "d1") => `(tactic| (with_reducible refine we_lst ?_))
local macro_rules | `(tactic| walk_at "d1") => `(tactic| (with_reducible refine we_ty ?_))
local macro_rules | `(tactic| walk_at "d1") => `(tactic| (with_reducible refine we_non ?_))
local macro_rules | `(tactic| walk_at "d1") => `(tactic| (with_reducible refine we_bl ?_))
local macro_rules | `(tactic| walk_at "d1") => `(tactic| (with_reducible refine ws_asg ?_))
local macro_rules | `(tactic| walk_at "d1") => `(tactic| (with_reducible refine ws_par3 ?_))
local macro_rules | `(tactic| walk_at "d1") => `(tactic| (with_reducible refine ws_par ?_))
local macro_rules | `(tactic| walk_at "d1") => `(tactic| (with_reducible refine ws_drop ?_))
local macro_rules | `(tactic| walk_at "d1") => `(tactic| (with_reducible refine ru_neg ?_))
local macro_rules | `(tactic| walk_at "d1") => `(tactic| (with_reducible refine rl_isi_bb ?_))
local macro_rules | `(tactic| walk_at "d1") => `(tactic| (with_reducible refine rl_isi_bt ?_))
local macro_rules | `(tactic| walk_at "d1") => `(tactic| (with_reducible refine rl_isi_sb ?_))
local macro_rules | `(tactic| walk_at "d1") => `(tactic| (with_reducible refine rl_isi_st ?_))
local macro_rules | `(tactic| walk_at "d1") => `(tactic| (with_reducible refine rl_isi_is ?_))
local macro_rules | `(tactic| walk_at "d1") => `(tactic| (with_reducible refine rl_isi_it ?_))
local macro_rules | `(tactic| walk_at "d1") => `(tactic| (with_reducible refine rl_isi_ib ?_))
local macro_rules | `(tactic| walk_at "d1") => `(tactic| (with_reducible refine rl_isi_ii ?_))
local macro_rules | `(tactic| walk_at "d1") => `(tactic| (with_reducible refine rl_isi_ss ?_))
local macro_rules | `(tactic| walk_at "d1") => `(tactic| (with_reducible refine rl_isi_tt ?_))
local macro_rules | `(tactic| walk_at "d1") => `(tactic| (with_reducible refine rl_abs ?_))
local macro_rules | `(tactic| walk_at "d1") => `(tactic| (with_reducible refine rl_int ?_))
local macro_rules | `(tactic| walk_at "d1") => `(tactic| (with_reducible refine wt_or ?_))
local macro_rules | `(tactic| walk_at "d1") => `(tactic| (with_reducible refine rv_lt ?_))
local macro_rules | `(tactic| walk_at "d1") => `(tactic| (with_reducible refine rv_add ?_))
local macro_rules | `(tactic| walk_at "d1") => `(tactic| (with_reducible refine we_cb ?_))
local macro_rules | `(tactic| walk_at "d1") => `(tactic| (with_reducible refine ws_set ?_))
local macro_rules | `(tactic| walk_at "d1") => `(tactic| (with_reducible refine rv_ix1 ?_))
local macro_rules | `(tactic| walk_at "d1") => `(tactic| (with_reducible refine wt_and ?_))
local macro_rules | `(tactic| walk_at "d1") => `(tactic| (with_reducible refine we_call0 ?_))
local macro_rules | `(tactic| walk_at "d1") => `(tactic| ((with_reducible refine br_t ?h1 ?_); (case h1 => walk_at "t")))
local macro_rules | `(tactic| walk_at "d1") => `(tactic| ((with_reducible refine rv_inT ?a1 ?a2 ?_); (case a1 => rfl); (case a2 => first | rfl | decide +kernel)))
local macro_rules | `(tactic| walk_at "d1") => `(tactic| ((with_reducible refine len_and ?h1 ?_); (case h1 => first | decide | (simp; done) | (simp; omega))))
local macro_rules | `(tactic| walk_at "d1") => `(tactic| ((with_reducible refine br_f ?h1 ?_); (case h1 => walk_at "t")))
local macro_rules | `(tactic| walk_at "d1") => `(tactic| (with_reducible refine ⟨_, rfl, ?_⟩))
local macro_rules | `(tactic| walk_at "d1") => `(tactic| (with_reducible refine ws_ret ?_))
local macro_rules | `(tactic| walk_at "d1") => `(tactic| (with_reducible refine rv_eqS ?_))
local macro_rules | `(tactic| walk_at "d1") => `(tactic| (with_reducible refine we_tup ?_))
local macro_rules | `(tactic| walk_at "d1") => `(tactic| (with_reducible refine rv_ix0 ?_))
local macro_rules | `(tactic| walk_at "d1") => `(tactic| (with_reducible refine ws_next ?_))
local macro_rules | `(tactic| walk_at "d1") => `(tactic| (with_reducible refine ws_if ?_))
local macro_rules | `(tactic| walk_at "d1") => `(tactic| (with_reducible refine wt_test ?_))
local macro_rules | `(tactic| walk_at "d1") => `(tactic| (with_reducible refine ws_seq ?_))
local macro_rules | `(tactic| walk_at "d1") => `(tactic| (with_reducible refine wa_nil ?_))
local macro_rules | `(tactic| walk_at "d1") => `(tactic| (with_reducible refine we_int ?_))
local macro_rules | `(tactic| walk_at "d1") => `(tactic| (with_reducible refine we_str ?_))
local macro_rules | `(tactic| walk_at "d1") => `(tactic| (with_reducible refine we_op ?_))
local macro_rules | `(tactic| walk_at "d1") => `(tactic| ((with_reducible refine' we_var ?h1 ?_); (case h1 => exact rfl)))
local macro_rules | `(tactic| walk_at "d1") => `(tactic| (with_reducible refine wa_cons ?_))
local macro_rules | `(tactic| walk_at "d") => `(tactic| repeat (walk_at "d1"))
theorem sc_words_of : FnScope ["book", "words", "word", "names", "_"] ["book"] (defScope s_words_of) := ⟨rfl, rfl, rfl, by decide +kernel, rfl, by decide +kernel, by decide +kernel⟩
theorem sc_is_whole : FnScope ["value"] ["value"] (defScope s_is_whole) := ⟨rfl, rfl, rfl, by decide +kernel, rfl, by decide +kernel, by decide +kernel⟩
theorem sc_is_count : FnScope ["value"] ["value"] (defScope s_is_count) := ⟨rfl, rfl, rfl, by decide +kernel, rfl, by decide +kernel, by decide +kernel⟩
theorem sc_is_number : FnScope ["value"] ["value"] (defScope s_is_number) := ⟨rfl, rfl, rfl, by decide +kernel, rfl, by decide +kernel, by decide +kernel⟩
theorem sc_is_leaf : FnScope ["part", "holes", "name"] ["part", "holes"] (defScope s_is_leaf) := ⟨rfl, rfl, rfl, by decide +kernel, rfl, by decide +kernel, by decide +kernel⟩
theorem sc_is_patterned : FnScope ["words", "value", "holes", "left", "waiting", "part", "depth", "inner"] ["words", "value", "holes"] (defScope s_is_patterned) := ⟨rfl, rfl, rfl, by decide +kernel, rfl, by decide +kernel, by decide +kernel⟩
theorem sc_is_closed_term : FnScope ["words", "value"] ["words", "value"] (defScope s_is_closed_term) := ⟨rfl, rfl, rfl, by decide +kernel, rfl, by decide +kernel, by decide +kernel⟩
def S_words : SpD := fun xs M Q => xs = [.tup []] ∧ ∀ M', MEx M M' → Q .core M'
def S_whole : SpD := fun xs M Q => ∃ i : Int, xs = [.int i] ∧ ∀ M', MEx M M' → Q (.bl true) M'
def S_count : SpD := fun xs M Q => ∃ i : Int, xs = [.int i] ∧ ∀ M', MEx M M' → Q (.bl (decide (0 ≤ i))) M'
def S_number : SpD := fun xs M Q => ∃ i : Int, xs = [.int i] ∧ ∀ M', MEx M M' → Q (.bl (decide (-999999999 ≤ i ∧ i ≤ 999999999))) M'
def S_leaf : SpD := fun xs M Q => ∃ (t : Tm) (m d : Nat), xs = [t.enc, .bl false] ∧ t.isUse = false ∧ t.wf m d = true ∧ ∀ M', MEx M M' → Q (.bl true) M'
/-- the term passes the first look -/
def S_pat : SpD := fun xs M Q => ∃ (t : Tm) (m d : Nat), xs = [.core, t.enc, .bl false] ∧ t.wf m d = true ∧ t.len ≤ 1500 ∧ t.dep ≤ 60 ∧ ∀ M', MEx M M' → Q (.bl true) M'
def S_closed (n : Nat) : SpD := fun xs M Q => ∃ (t : Tm) (m : Nat), xs = [.core, t.enc] ∧ t.wf m 0 = true ∧ t.len ≤ 1500 ∧ t.dep ≤ 60 ∧ t.dep ≤ n ∧ ∀ M', MEx M M' → Q (.bl true) M'
theorem wf_cl {m : Nat} (t : Tm) : ∀ {d : Nat}, t.wf m d = true → t.cl d = true := by
  induction t with
  | num n => intro d _; rfl
  | name k => intro d h; exact h
  | «at» k => intro d _; rfl
  | u1 w a ih => intro d h; exact ih h
  | u2 w a b ih1 ih2 =>
    intro d h
    have h' : (a.wf m d && b.wf m d) = true := h
    rw [Bool.and_eq_true] at h'
    show (a.cl d && b.cl d) = true
    rw [ih1 h'.1, ih2 h'.2]
    rfl
  | u3 a b c ih1 ih2 ih3 =>
    intro d h
    have h' : (a.wf m d && b.wf m d && c.wf m d) = true := h
    rw [Bool.and_eq_true, Bool.and_eq_true] at h'
    show (a.cl d && b.cl d && c.cl d) = true
    rw [ih1 h'.1.1, ih2 h'.1.2, ih3 h'.2]
    rfl
section
variable {P : Program} {w : World} {K : PySem.W.Frag} {mg : Str → Option Value} {base : Heap}
theorem cal_words_of (G : Glb K mg) (GW : GlbW K w mg) : Cal P w K mg base 1 "words_of" S_words [] := by
  obtain ⟨aCORE, mCORE, hCORE⟩ := GW.k_CORE
  refine cal_mk (ps := ["book"]) G.d_words_of (fun _ _ _ _ _ _ us hl => match us, hl with | [_], _ => rfl) sc_words_of (fun xs M Q h => by obtain ⟨rfl, _⟩ := h; rfl) fun f cdv A outer s H E hr => ⟨_, (pss_cons (ps_set (i := 1) sc_words_of.nd rfl (.inl rfl) (pe_callTy (cr_dictCore (K := K) (w := w) rfl rfl) (by rfl) G.b_dict (by decide +kernel) (pa_cons (pe_glob (v := .ref aCORE) rfl mCORE rfl) pa_nil)))
      (pss_cons (ps_for PassesOwn.never rfl (pi_tupK (K := K) rfl (pv 0)) (pg_tupK (K := K) (n := 3) rfl rfl (pgs_cons (pg_name (i := 2) sc_words_of.nd rfl (.inl rfl)) (pgs_cons (pg_name (i := 3) sc_words_of.nd rfl (.inl rfl)) (pgs_cons (pg_name (i := 4) sc_words_of.nd rfl (.inl rfl)) pgs_nil))) (by rfl) (by rfl))
        pss_never)
      (pss_one (ps_ret (pv 1))))), fun xs M Q h => ?_⟩
  obtain ⟨rfl, q⟩ := h
  walk_at "d"
  refine we_c (d := .adr aCORE) (fun H => .adr _) ?_
  walk_at "d"
  refine rl_dictCore hCORE ?_
  walk_at "d"
  refine ws_for (wi_tup (we_var rfl ⟨_, rfl, fun a => ⟨_, yl_tup, fun _ _ => True, fun i ds' M' => M' = M ∧ ds' = [some (.tup []), some .core, none, none, none], keeps_tup, fun _ _ _ _ => True.intro, ⟨rfl, rfl⟩, fun i x ds' M' hx _ => ?_, fun ds' M' hi => ?_⟩⟩))
  · simp at hx
  · obtain ⟨rfl, rfl⟩ := hi
    walk_at "d"
    exact q _ .refl
theorem cal_is_whole (G : Glb K mg) : Cal P w K mg base 1 "is_whole" S_whole [] := by
  refine cal_mk (ps := ["value"]) G.d_is_whole (fun _ _ _ _ _ _ us hl => match us, hl with | [_], _ => rfl) sc_is_whole (fun xs M Q h => by obtain ⟨i, rfl, _⟩ := h; rfl) fun f cdv A outer s H E hr => ⟨_, (pss_one (ps_ret (pe_and (pe_callB (call_isiK' (K := K) rfl) (by rfl) G.b_isinstance (by decide +kernel) (pa_cons (pv 0) (pa_cons (pe_bltn (v := .ty "int") (u := .type "int") (by rfl) G.b_int (by decide +kernel) rfl) pa_nil))) (pe_one (pe_not (pe_callB (call_isiK' (K := K) rfl) (by rfl) G.b_isinstance (by decide +kernel) (pa_cons (pv 0) (pa_cons (pe_bltn (v := .ty "bool") (u := .type "bool") (by rfl) G.b_bool (by decide +kernel) rfl) pa_nil)))))))), fun xs M Q h => ?_⟩
  obtain ⟨i, rfl, q⟩ := h
  walk_at "d"
  exact q M .refl
theorem cal_is_count (G : Glb K mg) : Cal P w K mg base 1 "is_count" S_count [] := by
  refine cal_mk (ps := ["value"]) G.d_is_count (fun _ _ _ _ _ _ us hl => match us, hl with | [_], _ => rfl) sc_is_count (fun xs M Q h => by obtain ⟨i, rfl, _⟩ := h; rfl) fun f cdv A outer s H E hr => ⟨_, (pss_one (ps_ret (pe_and (pe_callB (call_isiK' (K := K) rfl) (by rfl) G.b_isinstance (by decide +kernel) (pa_cons (pv 0) (pa_cons (pe_bltn (v := .ty "int") (u := .type "int") (by rfl) G.b_int (by decide +kernel) rfl) pa_nil))) (pe_and (pe_not (pe_callB (call_isiK' (K := K) rfl) (by rfl) G.b_isinstance (by decide +kernel) (pa_cons (pv 0) (pa_cons (pe_bltn (v := .ty "bool") (u := .type "bool") (by rfl) G.b_bool (by decide +kernel) rfl) pa_nil)))) (pe_one (pe_cmpR op_ge (pv 0) pe_int (nomark _))))))), fun xs M Q h => ?_⟩
  obtain ⟨i, rfl, q⟩ := h
  walk_at "d"
  exact q M .refl
theorem cal_is_number (G : Glb K mg) (c_is_whole : Cal P w K mg base 1 "is_whole" S_whole []) : Cal P w K mg base 2 "is_number" S_number [] := by
  refine cal_mk (ps := ["value"]) G.d_is_number (fun _ _ _ _ _ _ us hl => match us, hl with | [_], _ => rfl) sc_is_number (fun xs M Q h => by obtain ⟨i, rfl, _⟩ := h; rfl) fun f cdv A outer s H E hr => ⟨_, (pss_one (ps_ret (pe_and (pe_cal c_is_whole hr (by omega) ⟨rfl, rfl, rfl, rfl, rfl⟩ rfl (pa_cons (pv 0) pa_nil)) (pe_one (pe_chain op_le op_le (pe_un un_neg (pe_k rfl G.k_MOST_NUMBER rfl)) (pv 0) (pe_k rfl G.k_MOST_NUMBER rfl)))))), fun xs M Q h => ?_⟩
  obtain ⟨i, rfl, q⟩ := h
  walk_at "d"
  refine ⟨i, rfl, fun M2 h2 => ?_⟩
  walk_at "d"
  have q' := q M2 h2
  refine ⟨fun e => ?_, fun e => ?_⟩
  · walk_at "d"
    have e1 := of_decide_eq_true e
    have e2 : decide (i ≤ 999999999) = decide (-999999999 ≤ i ∧ i ≤ 999999999) := decide_eq_decide.mpr ⟨fun h => ⟨e1, h⟩, fun h => h.2⟩
    rw [e2]
    exact q'
  · have e1 := of_decide_eq_false e
    have e2 : decide (-999999999 ≤ i ∧ i ≤ 999999999) = false := decide_eq_false fun h => e1 h.1
    rw [e2] at q'
    exact q'
theorem cal_is_leaf (G : Glb K mg) (c_is_number : Cal P w K mg base 2 "is_number" S_number []) (c_is_count : Cal P w K mg base 1 "is_count" S_count []) : Cal P w K mg base 3 "is_leaf" S_leaf [] := by
  refine cal_mk (ps := ["part", "holes"]) G.d_is_leaf (fun _ _ _ _ _ _ us hl => match us, hl with | [_, _], _ => rfl) sc_is_leaf (fun xs M Q h => by obtain ⟨t, m, d, rfl, _⟩ := h; rfl) fun f cdv A outer s H E hr => ⟨_, (pss_cons (ps_if (pt_cmpR op_eq (pe_ix (ix_tupK (K := K) rfl) (pv 0) pe_int (fun _ _ => rfl)) pe_str (nomark _))
        pss_never
        pss_nil)
      (pss_cons (ps_if (pt_cmpR op_ne (pe_callB (call_lenK (K := K) rfl) (by rfl) G.b_len PySem.boot_len (pa_cons (pv 0) pa_nil)) pe_int (nomark _))
        (pss_one (ps_ret pe_bl))
        pss_nil)
      (pss_cons (ps_if (pt_cmpR op_eq (pe_ix (ix_tupK (K := K) rfl) (pv 0) pe_int (fun _ _ => rfl)) pe_str (nomark _))
        (pss_one (ps_ret (pe_cal c_is_number hr (by omega) ⟨rfl, rfl, rfl, rfl, rfl⟩ rfl (pa_cons (pe_ix (ix_tupK (K := K) rfl) (pv 0) pe_int (fun _ _ => rfl)) pa_nil))))
        pss_nil)
      (pss_one (ps_ret (pe_cal c_is_count hr (by omega) ⟨rfl, rfl, rfl, rfl, rfl⟩ rfl (pa_cons (pe_ix (ix_tupK (K := K) rfl) (pv 0) pe_int (fun _ _ => rfl)) pa_nil))))))), fun xs M Q h => ?_⟩
  obtain ⟨t, m, d, rfl, hu, hw, q⟩ := h
  cases t with
  | name k =>
    simp only [Tm.enc] at q ⊢
    walk_at "d"
    refine rl_lenT ?_
    walk_at "d"
    refine rv_neI ?_
    walk_at "d"
    refine ⟨(k : Int), rfl, fun M2 h2 => ?_⟩
    rw [decide_eq_true (by omega)]
    exact q M2 h2
  | «at» k =>
    simp only [Tm.enc] at q ⊢
    walk_at "d"
    refine rl_lenT ?_
    walk_at "d"
    refine rv_neI ?_
    walk_at "d"
    refine ⟨(k : Int), rfl, fun M2 h2 => ?_⟩
    rw [decide_eq_true (by omega)]
    exact q M2 h2
  | num k =>
    simp only [Tm.enc] at q ⊢
    walk_at "d"
    refine rl_lenT ?_
    walk_at "d"
    refine rv_neI ?_
    walk_at "d"
    refine ⟨k, rfl, fun M2 h2 => ?_⟩
    have e : decide (-999999999 ≤ k ∧ k ≤ 999999999) = true := hw
    rw [e]
    exact q M2 h2
  | _ => cases hu
def stD (s : Tm × Nat) : Dv := .tup [s.1.enc, .int (s.2 : Int)]
def stLen (st : List (Tm × Nat)) : Nat := (st.map fun s => s.1.len).sum
theorem cal_is_patterned (G : Glb K mg) (c_is_leaf : Cal P w K mg base 3 "is_leaf" S_leaf []) : Cal P w K mg base 4 "is_patterned" S_pat [] := by
  obtain ⟨aLEAVES, mLEAVES, tL⟩ := G.k_LEAVES
  refine cal_mk (ps := ["words", "value", "holes"]) G.d_is_patterned (fun _ _ _ _ _ _ us hl => match us, hl with | [_, _, _], _ => rfl) sc_is_patterned (fun xs M Q h => by obtain ⟨t, m, d, rfl, _⟩ := h; rfl) fun f cdv A outer s H E hr => ⟨_, (pss_cons (ps_set (i := 3) sc_is_patterned.nd rfl (.inl rfl) (pe_k rfl G.k_MOST_LENGTH rfl))
      (pss_cons (ps_set (i := 4) sc_is_patterned.nd rfl (.inl rfl) (pe_lst (pa_cons (pe_tup (pa_cons (pv 1) (pa_cons pe_int pa_nil))) pa_nil)))
      (pss_cons (ps_while PassesOwn.never (pt_truthK (K := K) rfl (pv 4) (by intro _; rfl))
        (pss_cons (ps_asg (pe_bm0 PySem.F.plainAttrs_list PySem.F.slot_list_pop PySem.F.type_list_pop mt_pop (pv 4)) (pg_tupK (K := K) (n := 2) rfl rfl (pgs_cons (pg_name (i := 5) sc_is_patterned.nd rfl (.inl rfl)) (pgs_cons (pg_name (i := 6) sc_is_patterned.nd rfl (.inr rfl)) pgs_nil)) (by rfl) (by rfl)))
        (pss_cons (ps_if (PW.pt (pw_or (pt_cmpR op_gt (pv 6) (pe_k rfl G.k_MOST_DEPTH rfl) (nomark _)) (pw_or (pt_not (pt_val (pe_callB (call_isiK' (K := K) rfl) (by rfl) G.b_isinstance (by decide +kernel) (pa_cons (pv 5) (pa_cons (pe_bltn (v := .ty "tuple") (u := .type "tuple") (by rfl) G.b_tuple (by decide +kernel) rfl) pa_nil))))) (pw_or (pt_cmpR op_eq (pe_callB (call_lenK (K := K) rfl) (by rfl) G.b_len PySem.boot_len (pa_cons (pv 5) pa_nil)) pe_int (nomark _)) (pw_or1 (pt_not (pt_val (pe_callB (call_isiK' (K := K) rfl) (by rfl) G.b_isinstance (by decide +kernel) (pa_cons (pe_ix (ix_tupK (K := K) rfl) (pv 5) pe_int (fun _ _ => rfl)) (pa_cons (pe_bltn (v := .ty "str") (u := .type "str") (by rfl) G.b_str (by decide +kernel) rfl) pa_nil))))))))))
          (pss_one (ps_ret pe_bl))
          pss_nil)
        (pss_cons (ps_if (pt_cmpR (op_inK (K := K) rfl) (pe_ix (ix_tupK (K := K) rfl) (pv 5) pe_int (fun _ _ => rfl)) (pe_glob (v := .ref aLEAVES) rfl mLEAVES rfl) (by rfl))
          (pss_cons (ps_if (pt_not (pt_val (pe_cal c_is_leaf hr (by omega) ⟨rfl, rfl, rfl, rfl, rfl⟩ rfl (pa_cons (pv 5) (pa_cons (pv 2) pa_nil)))))
            (pss_one (ps_ret pe_bl))
            pss_nil)
          (pss_one (ps_aug (i := 3) sc_is_patterned.nd rfl (.inl rfl) pe_int ip_sub)))
          (pss_one (ps_if (PW.pt (pw_or (pt_cmp (pc_dnotin (hu_of hr) (pe_ix (ix_tupK (K := K) rfl) (pv 5) pe_int (fun _ _ => rfl)) (pv 0)) (by rfl)) (pw_or1 (pt_cmpR op_ne (pe_callB (call_lenK (K := K) rfl) (by rfl) G.b_len PySem.boot_len (pa_cons (pv 5) pa_nil)) (pe_op op_add (pe_callB (call_lenK (K := K) rfl) (by rfl) G.b_len PySem.boot_len (pa_cons (pe_dget (hu_of hr) (pv 0) (pe_ix (ix_tupK (K := K) rfl) (pv 5) pe_int (fun _ _ => rfl)) (fun _ _ => rfl)) pa_nil)) pe_int) (nomark _)))))
            (pss_one (ps_ret pe_bl))
            (pss_cons (ps_aug (i := 3) sc_is_patterned.nd rfl (.inl rfl) (pe_op op_add pe_int (pe_callB (cr_sumTK (K := K) rfl rfl) (by rfl) G.b_sum (by decide +kernel) (pa_cons (pe_dget (hu_of hr) (pv 0) (pe_ix (ix_tupK (K := K) rfl) (pv 5) pe_int (fun _ _ => rfl)) (fun _ _ => rfl)) pa_nil))) ip_sub)
            (pss_one (ps_expr (pe_bmK (K := K) rfl PySem.F.plainAttrs_list PySem.F.slot_list_extend PySem.F.type_list_extend mt_extend (pv 4) (pa_cons (pe_lc (own := [("inner", 7)]) (by rfl) sc_is_patterned.nd (pi_tupK (K := K) rfl (pe_slice (sl_tupK (K := K) rfl) (pv 5) (po_some pe_int) po_none)) (blkOk_by (N := ["words", "value", "holes", "left", "waiting", "part", "depth", "inner"]) (sc := defScope s_is_patterned) (by decide +kernel)) (fun _ _ _ _ _ => (pg_name (i := 7) sc_is_patterned.nd rfl (.inl rfl))) (fun _ _ _ _ _ => pts_nil) (fun _ _ _ _ _ => (pe_tup (pa_cons (pv 7) (pa_cons (pe_op op_add (pv 6) pe_int) pa_nil))))) pa_nil))))))))
        (pss_one (ps_if (pt_cmpR op_lt (pv 3) pe_int (nomark _))
          (pss_one (ps_ret pe_bl))
          pss_nil))))))
      (pss_one (ps_ret pe_bl))))), fun xs M Q h => ?_⟩
  obtain ⟨t, m, d, rfl, hw, hl, hd, q⟩ := h
  walk_at "d"
  intro p np
  walk_at "d"
  refine ws_while (fun mm ds' M' => ∃ (st : List (Tm × Nat)) (left : Nat) (a b c : Option Dv), ds' = [some .core, some t.enc, some (.bl false), some (.int (left : Int)), some (.adr p), a, b, c] ∧ M' p = some (.lst (st.map stD)) ∧ MEx M M' ∧ (∀ s ∈ st, (∃ d, s.1.wf m d = true) ∧ s.1.dep + s.2 ≤ 61) ∧ stLen st ≤ left ∧ left ≤ 1500 ∧ mm = stLen st)
    ⟨_, [(t, 1)], 1500, none, none, none, rfl, mupd_same, MEx.new np, fun s hs => by
      have e := List.mem_singleton.mp hs
      subst e
      exact ⟨⟨d, hw⟩, by simp; omega⟩, by simpa [stLen] using hl, Nat.le_refl _, rfl⟩ ?_
  rintro mm ds' M' ⟨st, left, a, b, c, rfl, hp, mx, hst, hsl, hle, rfl⟩
  refine wt_truL (we_var rfl ⟨p, _, rfl, hp, ?_⟩)
  rcases List.eq_nil_or_concat st with rfl | ⟨st', ⟨u, k⟩, rfl⟩
  · refine br_f rfl ?_
    walk_at "d"
    exact q M' mx
  · rw [List.concat_eq_append] at *
    refine br_t (by simp) ?_
    walk_at "d"
    refine we_pop (we_var rfl ⟨p, _, stD (u, k), rfl, hp, by simp, ?_⟩)
    have e1 : ((st' ++ [(u, k)]).map stD).dropLast = st'.map stD := by simp
    rw [e1]
    show WG K _ (.tup [u.enc, .int (k : Int)]) _ _ _
    refine wg_tup rfl (wgs_cons (wg_name (wgs_cons (wg_name (wgs_nil ?_)))))
    obtain ⟨⟨du, hwu⟩, hdu⟩ := hst (u, k) (by simp)
    have hku : u.dep + k ≤ 61 := hdu
    have hp1 := Tm.dep_pos u
    have hl1 := Tm.len_pos u
    have esum : stLen (st' ++ [(u, k)]) = stLen st' + u.len := by simp [stLen]
    rw [esum] at hsl
    have mx1 : MEx M (mupd M' p (.lst (st'.map stD))) := mx.putNew np
    cases hu : u.isUse with
    | false =>
      obtain ⟨r, er⟩ := enc_head u
      have eu := leaf_leaves hu
      have el : u.len = 1 := by cases u <;> first | rfl | cases hu
      rw [er]
      walk_at "d"
      refine br_f (decide_eq_false (by omega)) ?_
      walk_at "d"
      refine rl_lenT ?_
      walk_at "d"
      refine rv_eqI ?_
      walk_at "d"
      rw [← er]
      refine ⟨u, m, du, rfl, hu, hwu, fun M2 h2 => ?_⟩
      walk_at "d"
      refine ws_aug rfl ?_
      walk_at "d"
      refine br_f (decide_eq_false (by omega)) ?_
      walk_at "d"
      refine ⟨stLen st', by omega, st', left - 1, some u.enc, some (.int (k : Int)), c, ?_, h2 _ _ mupd_same, mx1.trans h2, fun s hs => hst s (by simp [hs]), by omega, by omega, rfl⟩
      have e2 : ((left : Int) - 1) = ((left - 1 : Nat) : Int) := by omega
      rw [← e2]
      rfl
    | true =>
      have h3 := parts_3 u
      rw [Tm.enc_use hu]
      walk_at "d"
      refine br_f (decide_eq_false (by omega)) ?_
      walk_at "d"
      refine rl_lenT ?_
      walk_at "d"
      refine rv_eqI ?_
      walk_at "d"
      refine we_niCore ?_
      walk_at "d"
      refine ⟨_, rfl, rfl, ?_⟩
      rw [Tm.core_names hu]
      walk_at "d"
      refine rl_lenT ?_
      walk_at "d"
      refine we_core ?_
      walk_at "d"
      refine ⟨_, _, rfl, rfl, Tm.core_names hu, ?_⟩
      walk_at "d"
      refine rl_lenT ?_
      walk_at "d"
      refine rv_neI ?_
      walk_at "d"
      have hbl := Tm.binds_len u
      refine br_f (by simp [hbl]) ?_
      walk_at "d"
      refine ws_aug rfl ?_
      walk_at "d"
      refine we_core ?_
      walk_at "d"
      refine ⟨_, _, rfl, rfl, Tm.core_names hu, ?_⟩
      walk_at "d"
      refine rl_sumTN ?_
      walk_at "d"
      refine we_extend (we_var rfl ⟨p, rfl, ⟨_, mupd_same⟩, ?_⟩)
      refine we_lcParts (t := u) (fun v => stD (v, k + 1)) rfl rfl ?_ ?_
      · intro v hv M2 hM
        walk_at "d"
        exact ⟨.refl, rfl⟩
      · intro r M2 h2 hr
        have hlen := Tm.len_use hu
        have hsm : (u.parts.map Tm.len).sum + u.binds.sum + 1 = u.len := by omega
        have hs1 : st'.length ≤ stLen st' := by
          have gen : ∀ l : List (Tm × Nat), l.length ≤ stLen l := by
            intro l
            induction l with
            | nil => simp [stLen]
            | cons x l ih =>
              have := Tm.len_pos x.1
              have e : stLen (x :: l) = x.1.len + stLen l := by simp [stLen]
              rw [e, List.length_cons]
              omega
          exact gen st'
        refine ⟨r, _, _, rfl, h2 _ _ mupd_same, hr, by simp only [List.length_map]; omega, ?_⟩
        walk_at "d"
        refine br_f (decide_eq_false (by omega)) ?_
        walk_at "d"
        have e4 : stLen (st' ++ u.parts.map fun v => (v, k + 1)) = stLen st' + (u.parts.map Tm.len).sum := by
          unfold stLen
          rw [List.map_append, List.sum_append, List.map_map]
          rfl
        refine ⟨stLen (st' ++ u.parts.map fun v => (v, k + 1)), by omega, st' ++ u.parts.map fun v => (v, k + 1), left - (1 + u.binds.sum), some (.tup (.str u.word :: u.parts.map Tm.enc)), some (.int (k : Int)), c, ?_, ?_, (mx1.trans h2).putNew np, fun s hs => ?_, by omega, by omega, rfl⟩
        · have e2 : ((left : Int) - (1 + ((u.binds.sum : Nat) : Int))) = ((left - (1 + u.binds.sum) : Nat) : Int) := by omega
          rw [← e2]
          rfl
        · rw [mupd_same, List.map_append, List.map_map]
          rfl
        · rcases List.mem_append.mp hs with hs | hs
          · exact hst s (by simp [hs])
          · obtain ⟨v, hv, rfl⟩ := List.mem_map.mp hs
            have hd1 := Tm.dep_part hv
            refine ⟨?_, by show v.dep + (k + 1) ≤ 61; omega⟩
            obtain ⟨i, hi⟩ := List.getElem?_of_mem hv
            have hi2 : i < u.parts.length := (List.getElem?_eq_some_iff.mp hi).1
            have hz : u.zipPB[i]? = some (v, u.binds[i]'(by omega)) := by
              unfold Tm.zipPB
              rw [List.getElem?_zip_eq_some]
              exact ⟨hi, List.getElem?_eq_getElem _⟩
            have h5 := Tm.wf_part hwu _ (List.mem_of_getElem? hz)
            exact ⟨_, h5⟩
theorem cal_is_closed_term (G : Glb K mg) {n : Nat} (hn : 3 ≤ n) (c_is_patterned : Cal P w K mg base 4 "is_patterned" S_pat []) (c_free_by : Cal P w K mg base (n + 2) "free_by" (S_free n) []) : Cal P w K mg base (n + 3) "is_closed_term" (S_closed n) [] := by
  refine cal_mk (ps := ["words", "value"]) G.d_is_closed_term (fun _ _ _ _ _ _ us hl => match us, hl with | [_, _], _ => rfl) sc_is_closed_term (fun xs M Q h => by obtain ⟨t, m, rfl, _⟩ := h; rfl) fun f cdv A outer s H E hr => ⟨_, (pss_one (ps_ret (pe_and (pe_cal c_is_patterned hr (by omega) ⟨rfl, rfl, rfl, rfl, rfl⟩ rfl (pa_cons (pv 0) (pa_cons (pv 1) (pa_cons pe_bl pa_nil)))) (pe_one (pe_cmpR (op_eqDK (K := K) rfl hr.units) (pe_cal c_free_by hr (by omega) ⟨rfl, rfl, rfl, rfl, rfl⟩ rfl (pa_cons (pv 0) (pa_cons (pv 1) pa_nil))) (pe_tup pa_nil) (nomark _)))))), fun xs M Q h => ?_⟩
  obtain ⟨t, m, rfl, hw, hl, hd, hn, q⟩ := h
  walk_at "d"
  refine ⟨t, m, 0, rfl, hw, hl, hd, fun M2 h2 => ?_⟩
  walk_at "d"
  refine ⟨t, rfl, wf_cl t hw, hn, fun M3 h3 => ?_⟩
  walk_at "d"
  refine rv_eqT0 (ns := []) ?_
  exact q M3 (h2.trans h3)
end
end FS
set_option maxHeartbeats 4000000
/-! Programs, plain: well formed, fitting, the boxes met, tidied, one step. -/
namespace FS
open PySem PySem.Spec PyProof.Rows L2
section
variable {K : PySem.W.Frag} {ds : EnvD} {M : Mm} {D : DEnds} {Q : Dv → Mm → Prop} {te te0 : TE} {tt : TT} {ta : TA} {x y z : Dv} {i j l : Nat} {ts : TS}
theorem WT.mono {Q Q' : Bool → Mm → Prop} (h : WT K tt ds M Q) (f : ∀ b M, Q b M → Q' b M) : WT K tt ds M Q' := ⟨fun σ H hE hM R k => h.run σ H hE hM R fun b H' M' e m q => k b H' M' e m (f b M' q)⟩
/-- for term in a tuple -/
theorem ws_forU {α : Type} (us : List α) (en : α → Dv) (Pv : Nat → EnvD → Mm → Prop) (h : WE K te ds M fun x M1 => x = .tup (us.map en) ∧ Pv 0 ds M1)
    (hs : ∀ n u ds' M', us[n]? = some u → Pv n ds' M' → WS K ts (ds'.set j (some (en u))) M' { nx := Pv (n + 1), ct := Pv (n + 1), bk := D.nx, rt := D.rt })
    (hd : ∀ ds' M', Pv us.length ds' M' → D.nx ds' M') : WS K (tFor (iTup K te) (gName j) ts) ds M D := by
  refine ws_for (wi_tup (h.mono fun x M1 q => ?_))
  obtain ⟨rfl, h0⟩ := q
  refine ⟨_, rfl, fun a => ⟨us.map en, yl_tup, fun _ _ => True, Pv, keeps_tup, fun _ _ _ _ => True.intro, h0, fun n x ds' M' hx' hp => wg_name ?_, fun ds' M' hp => hd ds' M' (by rw [List.length_map] at hp; exact hp)⟩⟩
  rw [List.getElem?_map] at hx'
  cases e : us[n]? with
  | none =>
    rw [e] at hx'
    cases hx'
  | some p =>
    rw [e] at hx'
    cases hx'
    exact hs n p ds' M' e hp
/-- for k in range(n) -/
theorem ws_forR (n : Nat) (Pv : Nat → EnvD → Mm → Prop) (h : WA K ta ds M fun xs M1 => xs = [.int (n : Int)] ∧ n ≤ 1000000 ∧ Pv 0 ds M1)
    (hs : ∀ k ds' M', k < n → Pv k ds' M' → WS K ts (ds'.set j (some (.int (k : Int)))) M' { nx := Pv (k + 1), ct := Pv (k + 1), bk := D.nx, rt := D.rt })
    (hd : ∀ ds' M', Pv n ds' M' → D.nx ds' M') : WS K (tFor (iRng1 ta) (gName j) ts) ds M D := by
  refine ws_for (wi_rng (h.mono fun xs M1 q => ?_))
  obtain ⟨rfl, hn, h0⟩ := q
  refine ⟨n, rfl, hn, _, yl_rng, fun _ _ => True, Pv, keeps_rng, fun _ _ _ _ => True.intro, h0, fun k x ds' M' hx' hp => wg_name ?_, fun ds' M' hp => hd ds' M' (by rw [List.length_map, List.length_range] at hp; exact hp)⟩
  rw [List.getElem?_map] at hx'
  by_cases hk : k < n
  · rw [List.getElem?_range hk] at hx'
    cases hx'
    exact hs k ds' M' hk hp
  · rw [List.getElem?_eq_none (by rw [List.length_range]; omega)] at hx'
    cases hx'
/-- [.. for .. in a tuple] -/
theorem we_lcU {α : Type} (ps : List α) (en out : α → Dv) {vs : List Nat} (hv : vs = [j]) (h : WE K te0 ds M fun x M1 => x = .tup (ps.map en) ∧ MEx M M1) (hl : ps.length ≤ 1000000)
    (hs : ∀ p ∈ ps, ∀ M2, MEx M M2 → WE K te ((wipeD ds [j]).set j (some (en p))) M2 fun y M4 => MEx M2 M4 ∧ y = out p)
    (hd : ∀ q M2, MEx M M2 → M2 q = some (.lst (ps.map out)) → Q (.adr q) M2) : WE K (tLc (iTup K te0) (gName j) tYes te vs) ds M Q := by
  subst hv
  refine we_lc (α := α) (wi_tup (h.mono fun x M1 q => ?_))
  obtain ⟨rfl, mx⟩ := q
  refine ⟨_, rfl, fun a => ⟨ps, en, fun _ => true, out, yl_tup, keeps_tup, hl, fun p hp M2 hM => ⟨_, wgc_name, wt_yes ⟨.refl, rfl, fun _ => hs p hp M2 (mx.trans hM)⟩⟩, fun q M2 _ hM hq => ?_⟩⟩
  rw [filter_all] at hq
  exact hd q M2 (mx.trans hM) hq
/-- [.. for .. in a list] -/
theorem we_lcV {α : Type} (ps : List α) (en out : α → Dv) {vs : List Nat} (hv : vs = [j]) (h : WE K te0 ds M fun x M1 => ∃ p, x = .adr p ∧ M1 p = some (.lst (ps.map en)) ∧ MEx M M1) (hl : ps.length ≤ 1000000)
    (hs : ∀ p ∈ ps, ∀ M2, MEx M M2 → WE K te ((wipeD ds [j]).set j (some (en p))) M2 fun y M4 => MEx M2 M4 ∧ y = out p)
    (hd : ∀ q M2, MEx M M2 → M2 q = some (.lst (ps.map out)) → Q (.adr q) M2) : WE K (tLc (iList K te0) (gName j) tYes te vs) ds M Q := by
  subst hv
  refine we_lc (α := α) (wi_lst (h.mono fun x M1 q => ?_))
  obtain ⟨p, rfl, hp, mx⟩ := q
  refine ⟨p, _, rfl, hp, ps, en, fun _ => true, out, yl_lst, keeps_lstX, hl, fun p hp M2 hM => ⟨_, wgc_name, wt_yes ⟨.refl, rfl, fun _ => hs p hp M2 (mx.trans hM)⟩⟩, fun q M2 _ hM hq => ?_⟩
  rw [filter_all] at hq
  exact hd q M2 (mx.trans hM) hq
/-- [.. for .. in a tuple if ..] -/
theorem we_lcUF {α : Type} (ps : List α) (en out : α → Dv) (keep : α → Bool) {vs : List Nat} (hv : vs = [j]) (h : WE K te0 ds M fun x M1 => x = .tup (ps.map en) ∧ MEx M M1) (hl : ps.length ≤ 1000000)
    (hs : ∀ p ∈ ps, ∀ M2, MEx M M2 → WT K tt ((wipeD ds [j]).set j (some (en p))) M2 fun b M3 => MEx M2 M3 ∧ b = keep p ∧ (b = true → WE K te ((wipeD ds [j]).set j (some (en p))) M3 fun y M4 => MEx M3 M4 ∧ y = out p))
    (hd : ∀ q M2, M q = none → MEx M M2 → M2 q = some (.lst ((ps.filter keep).map out)) → Q (.adr q) M2) : WE K (tLc (iTup K te0) (gName j) tt te vs) ds M Q := by
  subst hv
  refine we_lc (α := α) (wi_tup (h.mono fun x M1 q => ?_))
  obtain ⟨rfl, mx⟩ := q
  refine ⟨_, rfl, fun a => ⟨ps, en, keep, out, yl_tup, keeps_tup, hl, fun p hp M2 hM => ⟨_, wgc_name, WT.mono (hs p hp M2 (mx.trans hM)) fun b M3 q => ⟨q.1, q.2.1, fun hb => WE.mono (q.2.2 hb) fun y M4 r => ⟨q.1.trans r.1, r.2⟩⟩⟩, fun q M2 n hM hq => ?_⟩⟩
  refine hd q M2 ?_ (mx.trans hM) hq
  cases e : M q with
  | none => rfl
  | some o =>
    rw [mx q o e] at n
    cases n
/-- [.. for k in range(n) if ..] -/
theorem we_lcRF (n : Nat) (out : Nat → Dv) (keep : Nat → Bool) {vs : List Nat} (hv : vs = [j]) (h : WA K ta ds M fun xs M1 => xs = [.int (n : Int)] ∧ MEx M M1) (hl : n ≤ 1000000)
    (hs : ∀ p < n, ∀ M2, MEx M M2 → WT K tt ((wipeD ds [j]).set j (some (.int (p : Int)))) M2 fun b M3 => MEx M2 M3 ∧ b = keep p ∧ (b = true → WE K te ((wipeD ds [j]).set j (some (.int (p : Int)))) M3 fun y M4 => MEx M3 M4 ∧ y = out p))
    (hd : ∀ q M2, M q = none → MEx M M2 → M2 q = some (.lst (((List.range n).filter keep).map out)) → Q (.adr q) M2) : WE K (tLc (iRng1 ta) (gName j) tt te vs) ds M Q := by
  subst hv
  refine we_lc (α := Nat) (wi_rng (h.mono fun xs M1 q => ?_))
  obtain ⟨rfl, mx⟩ := q
  exact ⟨n, rfl, hl, List.range n, fun k => .int (k : Int), keep, out, yl_rng, keeps_rng, by rw [List.length_range]; exact hl, fun p hp M2 hM => ⟨_, wgc_name, WT.mono (hs p (List.mem_range.mp hp) M2 (mx.trans hM)) fun b M3 q => ⟨q.1, q.2.1, fun hb => WE.mono (q.2.2 hb) fun y M4 r => ⟨q.1.trans r.1, r.2⟩⟩⟩, fun q M2 nq hM hq => hd q M2 (by
    cases e : M q with
    | none => rfl
    | some o =>
      rw [mx q o e] at nq
      cases nq) (mx.trans hM) hq⟩
end
theorem mem_sum_le {l : List Nat} {x : Nat} (h : x ∈ l) : x ≤ l.sum := by
  induction l with
  | nil => cases h
  | cons y l ih =>
    rw [List.sum_cons]
    rcases List.mem_cons.mp h with rfl | h
    · omega
    · have := ih h
      omega
theorem wf_clX' {m : Nat} (t : Tm) : ∀ {d : Nat}, t.wf m d = true → t.cl d = true := by
  induction t with
  | num n => intro d _; rfl
  | name k => intro d h; exact h
  | «at» k => intro d _; rfl
  | u1 w a ih => intro d h; exact ih h
  | u2 w a b ih1 ih2 =>
    intro d h
    have h' : (a.wf m d && b.wf m d) = true := h
    rw [Bool.and_eq_true] at h'
    show (a.cl d && b.cl d) = true
    rw [ih1 h'.1, ih2 h'.2]
    rfl
  | u3 a b c ih1 ih2 ih3 =>
    intro d h
    have h' : (a.wf m d && b.wf m d && c.wf m d) = true := h
    rw [Bool.and_eq_true, Bool.and_eq_true] at h'
    show (a.cl d && b.cl d && c.cl d) = true
    rw [ih1 h'.1.1, ih2 h'.1.2, ih3 h'.2]
    rfl
theorem wf_clX {m d : Nat} {t : Tm} (h : t.wf m d = true) : t.cl d = true := wf_clX' t h
/-- a program's boxes and term -/
structure Wf (bs : List Tm) (t : Tm) : Prop where
  bx : ∀ b ∈ bs, b.wf bs.length 0 = true ∧ b.isVal = true
  tm : t.wf bs.length 0 = true
def lenP (bs : List Tm) (t : Tm) : Nat := (bs.map Tm.len).sum + t.len
/-- neither too long nor too deep -/
def Fit (bs : List Tm) (t : Tm) : Prop := lenP bs t ≤ 1500 ∧ ∀ b ∈ t :: bs, b.dep ≤ 60
def encP (bs : List Tm) (t : Tm) : Dv := .tup [.tup (bs.map Tm.enc), t.enc]
theorem atsF_has (t : Tm) : ∀ {ks : List Nat} {k : Nat}, k ∈ t.atsF ks ↔ k ∈ ks ∨ t.has k = true := by
  have ha : ∀ {ks : List Nat} {j k : Nat}, k ∈ Tm.addAt ks j ↔ k ∈ ks ∨ j = k := by
    intro ks j k
    unfold Tm.addAt
    split
    · rename_i h
      exact ⟨.inl, fun h' => h'.elim id fun e => e ▸ h⟩
    · simp [List.mem_append, eq_comm]
  induction t with
  | num n => intro ks k; simp [Tm.atsF, Tm.has]
  | name n => intro ks k; simp [Tm.atsF, Tm.has]
  | «at» j => intro ks k; simp [Tm.atsF, Tm.has, ha]
  | u1 w a ih => intro ks k; exact ih
  | u2 w a b ih1 ih2 => intro ks k; simp only [Tm.atsF, Tm.has, ih2, ih1, Bool.or_eq_true, or_assoc]
  | u3 a b c ih1 ih2 ih3 => intro ks k; simp only [Tm.atsF, Tm.has, ih3, ih2, ih1, Bool.or_eq_true, or_assoc]
theorem wf_has {m : Nat} (t : Tm) : ∀ {d k : Nat}, t.wf m d = true → t.has k = true → k < m := by
  induction t with
  | num n => intro d k _ h; cases h
  | name n => intro d k _ h; cases h
  | «at» j =>
    intro d k h1 h2
    have e1 : j < m := of_decide_eq_true h1
    have e2 : j = k := of_decide_eq_true h2
    omega
  | u1 w a ih => intro d k h1 h2; exact ih h1 h2
  | u2 w a b ih1 ih2 =>
    intro d k h1 h2
    have h1' : (a.wf m d && b.wf m d) = true := h1
    have h2' : (a.has k || b.has k) = true := h2
    rw [Bool.and_eq_true] at h1'
    rw [Bool.or_eq_true] at h2'
    exact h2'.elim (ih1 h1'.1) (ih2 h1'.2)
  | u3 a b c ih1 ih2 ih3 =>
    intro d k h1 h2
    have h1' : (a.wf m d && b.wf m d && c.wf m d) = true := h1
    have h2' : (a.has k || b.has k || c.has k) = true := h2
    rw [Bool.and_eq_true, Bool.and_eq_true] at h1'
    rw [Bool.or_eq_true, Bool.or_eq_true] at h2'
    exact h2'.elim (fun h => h.elim (ih1 h1'.1.1) (ih2 h1'.1.2)) (ih3 h1'.2)
end FS
set_option maxHeartbeats 4000000
/-! The boxes met, tidied: plain. -/
namespace FS
open PySem PySem.Spec PyProof.Rows L2
def bx (bs : List Tm) (k : Nat) : Tm := bs.getD k (.num 0)
def stepM (bs : List Tm) (ks : List Nat) (i : Nat) : List Nat := match ks[i]? with
  | some k => (bx bs k).atsF ks
  | none => ks
def metN (bs : List Tm) (t : Tm) (n : Nat) : List Nat := (List.range n).foldl (stepM bs) (t.atsF [])
def met (bs : List Tm) (t : Tm) : List Nat := metN bs t bs.length
def tidyB (bs : List Tm) (t : Tm) : List Tm := (met bs t).map fun k => (bx bs k).renum (met bs t)
def tidyT (bs : List Tm) (t : Tm) : Tm := t.renum (met bs t)
theorem metN_succ (bs : List Tm) (t : Tm) (n : Nat) : metN bs t (n + 1) = stepM bs (metN bs t n) n := by
  unfold metN
  rw [List.range_succ, List.foldl_append]
  rfl
theorem addAt_nodup {ks : List Nat} (h : ks.Nodup) (k : Nat) : (Tm.addAt ks k).Nodup := by
  unfold Tm.addAt
  split
  · exact h
  · rename_i hk
    rw [List.nodup_append]
    refine ⟨h, by simp, fun a ha b hb e => ?_⟩
    rw [List.mem_singleton.mp hb] at e
    exact hk (e ▸ ha)
theorem atsF_nodup (t : Tm) : ∀ {ks : List Nat}, ks.Nodup → (t.atsF ks).Nodup := by
  induction t with
  | num n => intro ks h; exact h
  | name n => intro ks h; exact h
  | «at» j => intro ks h; exact addAt_nodup h j
  | u1 w a ih => intro ks h; exact ih h
  | u2 w a b ih1 ih2 => intro ks h; exact ih2 (ih1 h)
  | u3 a b c ih1 ih2 ih3 => intro ks h; exact ih3 (ih2 (ih1 h))
theorem addAt_pre (ks : List Nat) (k : Nat) : ∃ e, Tm.addAt ks k = ks ++ e := by
  unfold Tm.addAt
  split
  · exact ⟨[], by simp⟩
  · exact ⟨[k], rfl⟩
theorem atsF_pre (t : Tm) : ∀ ks : List Nat, ∃ e, t.atsF ks = ks ++ e := by
  induction t with
  | num n => intro ks; exact ⟨[], by simp [Tm.atsF]⟩
  | name n => intro ks; exact ⟨[], by simp [Tm.atsF]⟩
  | «at» j => intro ks; exact addAt_pre ks j
  | u1 w a ih => intro ks; exact ih ks
  | u2 w a b ih1 ih2 =>
    intro ks
    obtain ⟨e1, h1⟩ := ih1 ks
    obtain ⟨e2, h2⟩ := ih2 (a.atsF ks)
    exact ⟨e1 ++ e2, by show b.atsF (a.atsF ks) = _; rw [h2, h1, List.append_assoc]⟩
  | u3 a b c ih1 ih2 ih3 =>
    intro ks
    obtain ⟨e1, h1⟩ := ih1 ks
    obtain ⟨e2, h2⟩ := ih2 (a.atsF ks)
    obtain ⟨e3, h3⟩ := ih3 (b.atsF (a.atsF ks))
    exact ⟨e1 ++ (e2 ++ e3), by show c.atsF (b.atsF (a.atsF ks)) = _; rw [h3, h2, h1]; simp⟩
/-- what is met, behind what was met before -/
theorem addAt_cat (ks acc : List Nat) (k : Nat) : Tm.addAt (ks ++ acc.filter fun x => !decide (x ∈ ks)) k = ks ++ (Tm.addAt acc k).filter fun x => !decide (x ∈ ks) := by
  unfold Tm.addAt
  by_cases h1 : k ∈ ks
  · rw [if_pos (List.mem_append.mpr (.inl h1))]
    by_cases h2 : k ∈ acc
    · rw [if_pos h2]
    · rw [if_neg h2, List.filter_append]
      simp [h1]
  · by_cases h2 : k ∈ acc
    · rw [if_pos h2, if_pos (List.mem_append.mpr (.inr (List.mem_filter.mpr ⟨h2, by simpa using h1⟩)))]
    · rw [if_neg h2, if_neg (fun h => (List.mem_append.mp h).elim h1 fun h => h2 (List.mem_filter.mp h).1), List.filter_append]
      simp [h1]
theorem atsF_cat (t : Tm) : ∀ ks acc : List Nat, t.atsF (ks ++ acc.filter fun x => !decide (x ∈ ks)) = ks ++ (t.atsF acc).filter fun x => !decide (x ∈ ks) := by
  induction t with
  | num n => intro ks acc; rfl
  | name n => intro ks acc; rfl
  | «at» j => intro ks acc; exact addAt_cat ks acc j
  | u1 w a ih => intro ks acc; exact ih ks acc
  | u2 w a b ih1 ih2 => intro ks acc; show b.atsF (a.atsF _) = _; rw [ih1, ih2]; rfl
  | u3 a b c ih1 ih2 ih3 => intro ks acc; show c.atsF (b.atsF (a.atsF _)) = _; rw [ih1, ih2, ih3]; rfl
theorem atsF_ext (t : Tm) (ks : List Nat) : t.atsF ks = ks ++ (t.atsF []).filter fun x => !decide (x ∈ ks) := by
  have h := atsF_cat t ks []
  simpa using h
theorem nodup_le : ∀ (m : Nat) (l : List Nat), l.Nodup → (∀ k ∈ l, k < m) → l.length ≤ m
  | 0, [], _, _ => Nat.le_refl _
  | 0, k :: l, _, h => absurd (h k (List.mem_cons_self ..)) (Nat.not_lt_zero k)
  | m + 1, l, hn, h => by
    have hl : ∀ l : List Nat, l.Nodup → l.length ≤ (l.filter fun x => !decide (x = m)).length + 1 := by
      intro l
      induction l with
      | nil => intro _; simp
      | cons x l ih =>
        intro hn
        rw [List.nodup_cons] at hn
        by_cases e : x = m
        · have e2 : (l.filter fun x => !decide (x = m)) = l := by
            rw [List.filter_eq_self]
            intro y hy
            have : y ≠ m := fun z => hn.1 (by rw [e, ← z]; exact hy)
            simpa using this
          rw [List.filter_cons, if_neg (by simp [e]), e2]
          simp
        · rw [List.filter_cons, if_pos (by simp [e])]
          have := ih hn.2
          simp only [List.length_cons]
          omega
    have h2 := nodup_le m (l.filter fun x => !decide (x = m)) (hn.filter _) fun k hk => by
      obtain ⟨h3, h4⟩ := List.mem_filter.mp hk
      have h5 := h k h3
      have h6 : k ≠ m := by simpa using h4
      omega
    have h3 := hl l hn
    omega
theorem nodup_sub : ∀ {l r : List Nat}, l.Nodup → (∀ k ∈ l, k ∈ r) → l.length ≤ r.length
  | [], _, _, _ => Nat.zero_le _
  | x :: l, r, hn, h => by
    rw [List.nodup_cons] at hn
    have hx := h x (List.mem_cons_self ..)
    have h1 := nodup_sub (l := l) (r := r.erase x) hn.2 fun k hk => (List.mem_erase_of_ne (fun e : k = x => hn.1 (by rw [← e]; exact hk))).mpr (h k (List.mem_cons_of_mem _ hk))
    rw [List.length_erase_of_mem hx] at h1
    have := List.length_pos_of_mem hx
    rw [List.length_cons]
    omega
section
variable {bs : List Tm} {t : Tm}
theorem bx_mem {k : Nat} (h : k < bs.length) : bs[k]? = some (bx bs k) ∧ bx bs k ∈ bs := by
  have e := List.getElem?_eq_getElem h
  have e2 : bx bs k = bs[k] := by unfold bx; rw [List.getD_eq_getElem?_getD, e]; rfl
  exact ⟨by rw [e, e2], by rw [e2]; exact List.getElem_mem h⟩
theorem metN_ok (hw : Wf bs t) : ∀ n, (metN bs t n).Nodup ∧ ∀ k ∈ metN bs t n, k < bs.length
  | 0 => ⟨atsF_nodup t List.nodup_nil, fun k hk => wf_has t hw.tm ((atsF_has t).mp hk |>.elim (fun h => by cases h) id)⟩
  | n + 1 => by
    obtain ⟨h1, h2⟩ := metN_ok hw n
    rw [metN_succ]
    unfold stepM
    cases e : (metN bs t n)[n]? with
    | none => exact ⟨h1, h2⟩
    | some k =>
      have hk := h2 k (List.mem_of_getElem? e)
      refine ⟨atsF_nodup _ h1, fun j hj => ?_⟩
      rcases (atsF_has _).mp hj with hj | hj
      · exact h2 j hj
      · exact wf_has _ (hw.bx _ (bx_mem hk).2).1 hj
theorem metN_len (hw : Wf bs t) (n : Nat) : (metN bs t n).length ≤ bs.length := nodup_le _ _ (metN_ok hw n).1 (metN_ok hw n).2
theorem metN_pre (n : Nat) : ∃ e, metN bs t (n + 1) = metN bs t n ++ e := by
  rw [metN_succ]
  unfold stepM
  split
  · exact atsF_pre _ _
  · exact ⟨[], by simp⟩
theorem metN_stop {n : Nat} (h : (metN bs t n).length ≤ n) : ∀ p, n ≤ p → metN bs t p = metN bs t n := by
  intro p hp
  induction p with
  | zero =>
    have : n = 0 := by omega
    rw [this]
  | succ p ih =>
    by_cases e : n = p + 1
    · rw [e]
    · have ih' := ih (by omega)
      rw [metN_succ, ih']
      unfold stepM
      rw [List.getElem?_eq_none (by omega)]
theorem metN_done : ∀ n i k, i < n → (metN bs t n)[i]? = some k → ∀ j, (bx bs k).has j = true → j ∈ metN bs t n
  | 0, _, _, h, _, _, _ => absurd h (Nat.not_lt_zero _)
  | n + 1, i, k, hi, hk, j, hj => by
    by_cases e : i = n
    · subst e
      by_cases hl : i < (metN bs t i).length
      · obtain ⟨x, hx⟩ := metN_pre (bs := bs) (t := t) i
        have hk2 := hk
        rw [hx, List.getElem?_append_left hl] at hk2
        rw [metN_succ]
        unfold stepM
        rw [hk2]
        exact (atsF_has _).mpr (.inr hj)
      · rw [metN_stop (Nat.le_of_not_lt hl) (i + 1) (Nat.le_succ _)] at hk
        rw [List.getElem?_eq_none (by omega)] at hk
        cases hk
    · obtain ⟨x, hx⟩ := metN_pre (bs := bs) (t := t) n
      by_cases hl : i < (metN bs t n).length
      · have hk2 := hk
        rw [hx, List.getElem?_append_left hl] at hk2
        rw [hx]
        exact List.mem_append.mpr (.inl (metN_done n i k (by omega) hk2 j hj))
      · rw [metN_stop (n := n) (by omega) (n + 1) (Nat.le_succ _), List.getElem?_eq_none (by omega)] at hk
        cases hk
theorem metN_has {n k : Nat} (h : t.has k = true) : k ∈ metN bs t n := by
  induction n with
  | zero => exact (atsF_has t).mpr (.inr h)
  | succ n ih =>
    obtain ⟨x, hx⟩ := metN_pre (bs := bs) (t := t) n
    rw [hx]
    exact List.mem_append.mpr (.inl ih)
theorem met_closed (hw : Wf bs t) {k j : Nat} (hk : k ∈ met bs t) (h : (bx bs k).has j = true) : j ∈ met bs t := by
  obtain ⟨i, hi⟩ := List.getElem?_of_mem hk
  have hl := (List.getElem?_eq_some_iff.mp hi).1
  exact metN_done bs.length i k (Nat.lt_of_lt_of_le hl (metN_len hw _)) hi j h
theorem met_has {k : Nat} (h : t.has k = true) : k ∈ met bs t := metN_has h
theorem met_nodup (hw : Wf bs t) : (met bs t).Nodup := (metN_ok hw _).1
theorem met_lt (hw : Wf bs t) {k : Nat} (h : k ∈ met bs t) : k < bs.length := (metN_ok hw _).2 k h
end
/-! the dict of the new numbers -/
theorem valD_put {kvs : List (Key × Dv)} {k k' : Key} {v : Dv} : valD (putD kvs k v) k' = if k' = k then some v else valD kvs k' := by
  unfold putD
  split
  · rename_i h
    unfold valD
    induction kvs with
    | nil => simp at h
    | cons p kvs ih =>
      rw [List.map_cons, List.find?_cons, List.find?_cons]
      by_cases e1 : p.1 = k
      · rw [if_pos e1]
        by_cases e2 : k' = k
        · subst e2
          simp [e1]
        · have e3 : ¬ (p.1 = k') := fun z => e2 (z.symm.trans e1)
          simp only [decide_eq_false e3]
          have ih' : ((kvs.map fun kv => if kv.1 = k then (kv.1, v) else kv).find? fun kv => decide (kv.1 = k')).map (·.2) = (kvs.find? fun kv => decide (kv.1 = k')).map (·.2) := by
            clear ih h
            induction kvs with
            | nil => rfl
            | cons q kvs ih =>
              rw [List.map_cons, List.find?_cons, List.find?_cons]
              by_cases e4 : q.1 = k
              · have e5 : ¬ (q.1 = k') := fun z => e2 (z.symm.trans e4)
                rw [if_pos e4]
                simp only [decide_eq_false e5]
                exact ih
              · rw [if_neg e4]
                split
                · rfl
                · exact ih
          rw [ih', if_neg e2]
      · rw [if_neg e1]
        have h' : (kvs.any fun kv => decide (kv.1 = k)) = true := by
          rw [List.any_cons, decide_eq_false e1] at h
          simpa using h
        have ih' := ih h'
        by_cases e2 : p.1 = k'
        · simp only [decide_eq_true e2]
          rw [if_neg (fun z => e1 (e2.trans z))]
        · simp only [decide_eq_false e2]
          exact ih'
  · rename_i h
    have hn : ∀ q ∈ kvs, q.1 ≠ k := fun q hq e => h (List.any_eq_true.mpr ⟨q, hq, decide_eq_true e⟩)
    unfold valD
    rw [List.find?_append]
    by_cases e : k' = k
    · subst e
      have e2 : (kvs.find? fun kv => decide (kv.1 = k')) = none := List.find?_eq_none.mpr fun q hq => by simpa using hn q hq
      rw [e2, if_pos rfl]
      simp
    · rw [if_neg e]
      cases (kvs.find? fun kv => decide (kv.1 = k')) with
      | none => simp [Ne.symm e]
      | some q => rfl
/-- {number: index ..} -/
def numsD (ks : List Nat) : List (Key × Dv) := dcFold (fun p : Nat × Nat => (p.1 : Int)) (fun p => .int (p.2 : Int)) ks.zipIdx
theorem numsD_val {ks : List Nat} (hn : ks.Nodup) : ∀ {k : Nat}, k ∈ ks → valD (numsD ks) (.inl (k : Int)) = some (.int (ks.idxOf k : Int)) := by
  have gen : ∀ l : List Nat, l.reverse.Nodup → ∀ k, k ∈ l.reverse → valD (numsD l.reverse) (.inl (k : Int)) = some (.int (l.reverse.idxOf k : Int)) := by
    intro l
    induction l with
    | nil => intro _ k hk; cases hk
    | cons x l ih =>
      intro hn k hk
      rw [List.reverse_cons] at hn hk ⊢
      rw [List.nodup_append] at hn
      obtain ⟨h1, _, h3⟩ := hn
      have e1 : numsD (l.reverse ++ [x]) = putD (numsD l.reverse) (.inl (x : Int)) (.int (l.reverse.length : Int)) := by
        unfold numsD
        rw [List.zipIdx_append]
        simp only [List.zipIdx_cons, List.zipIdx_nil]
        rw [dcFold_snoc]
        simp
      rw [e1, valD_put]
      by_cases e : k = x
      · subst e
        have hk' : k ∉ l.reverse := fun h => h3 k h k (List.mem_singleton.mpr rfl) rfl
        rw [if_pos rfl, List.idxOf_append, if_neg hk']
        simp
      · rw [if_neg (fun z => e (by injection z with z; omega))]
        have hk' : k ∈ l.reverse := (List.mem_append.mp hk).elim id fun h => absurd (List.mem_singleton.mp h) e
        rw [ih h1 k hk', List.idxOf_append, if_pos hk']
  intro k hk
  have := gen ks.reverse (by rw [List.reverse_reverse]; exact hn) k (by rw [List.reverse_reverse]; exact hk)
  rwa [List.reverse_reverse] at this
end FS
set_option maxHeartbeats 4000000
/-! The place, the fault, what is made: plain. -/
namespace FS
open PySem PySem.Spec PyProof.Rows L2
theorem rv_ix3 {K : PySem.W.Frag} {M : Mm} {Q : Dv → Mm → Prop} {x y z u : Dv} {r : List Dv} (q : Q u M) : RV K (rIxT K) (.tup (x :: y :: z :: u :: r)) (.int 3) M Q := rv_ixT (atI_nat (j := 3) rfl) q
namespace Tm
def place : Tm → Option (List Nat)
  | u1 w a => if (u1 w a).isVal then none else some (match a.place with
    | some p => 0 :: p
    | none => [])
  | u2 w a b => if (u2 w a b).isVal then none else some (match a.place with
    | some p => 0 :: p
    | none => match b.place with
      | some p => 1 :: p
      | none => [])
  | u3 a _ _ => some (match a.place with
    | some p => 0 :: p
    | none => [])
  | _ => none
def looks : Tm → Nat
  | u1 _ _ => 1 | u2 _ _ _ => 2 | u3 _ _ _ => 1 | _ => 0
def placeAt (t : Tm) (i : Nat) : Option (List Nat) := (t.parts[i]?).bind place
theorem place_val {t : Tm} (h : t.isVal = true) : t.place = none := by
  cases t with
  | u1 w a => simp only [place, h]; rfl
  | u2 w a b => simp only [place, h]; rfl
  | u3 a b c => cases h
  | _ => rfl
theorem place_none {t : Tm} : t.cl 0 = true → t.place = none → t.isVal = true := by
  intro hc hp
  cases t with
  | u1 w a =>
    cases e : (u1 w a).isVal with
    | true => rfl
    | false => simp [place, e] at hp
  | u2 w a b =>
    cases e : (u2 w a b).isVal with
    | true => rfl
    | false => simp [place, e] at hp
  | u3 a b c => simp [place] at hp
  | name k => simp [cl] at hc
  | num n => rfl
  | «at» k => rfl
theorem place_hit {t : Tm} {i : Nat} {p : List Nat} (hv : t.isVal = false) (hi : i < t.looks) (h : ∀ j < i, t.placeAt j = none) (hp : t.placeAt i = some p) : t.place = some (i :: p) := by
  cases t with
  | u1 w a => match i, hi, hp with
    | 0, _, hp =>
      have hp' : a.place = some p := hp
      simp [place, hv, hp']
  | u2 w a b => match i, hi, hp with
    | 0, _, hp =>
      have hp' : a.place = some p := hp
      simp [place, hv, hp']
    | 1, _, hp =>
      have hp' : b.place = some p := hp
      have h0 : a.place = none := h 0 (by decide)
      simp [place, hv, hp', h0]
  | u3 a b c => match i, hi, hp with
    | 0, _, hp =>
      have hp' : a.place = some p := hp
      simp [place, hp']
  | _ => exact absurd hi (Nat.not_lt_zero _)
theorem place_miss {t : Tm} (hu : t.isUse = true) (hv : t.isVal = false) (h : ∀ j < t.looks, t.placeAt j = none) : t.place = some [] := by
  cases t with
  | u1 w a =>
    have h0 : a.place = none := h 0 (by simp [looks])
    simp [place, hv, h0]
  | u2 w a b =>
    have h0 : a.place = none := h 0 (by simp [looks])
    have h1 : b.place = none := h 1 (by simp [looks])
    simp [place, hv, h0, h1]
  | u3 a b c =>
    have h0 : a.place = none := h 0 (by simp [looks])
    simp [place, h0]
  | _ => cases hu
theorem place_len : ∀ (t : Tm) {pl : List Nat}, t.place = some pl → pl.length < t.dep := by
  intro t
  induction t with
  | u1 w a ih =>
    intro pl h
    cases e : (u1 w a).isVal with
    | true => simp [place, e] at h
    | false =>
      simp only [place, e] at h
      cases ha : a.place with
      | none =>
        simp [ha] at h
        subst h
        simp [dep]
        omega
      | some p =>
        simp [ha] at h
        subst h
        have := ih ha
        simp [dep]
        omega
  | u2 w a b ih1 ih2 =>
    intro pl h
    cases e : (u2 w a b).isVal with
    | true => simp [place, e] at h
    | false =>
      simp only [place, e] at h
      cases ha : a.place with
      | none =>
        cases hb : b.place with
        | none =>
          simp [ha, hb] at h
          subst h
          simp [dep]
          omega
        | some p =>
          simp [ha, hb] at h
          subst h
          have := ih2 hb
          simp [dep]
          omega
      | some p =>
        simp [ha] at h
        subst h
        have := ih1 ha
        simp [dep]
        omega
  | u3 a b c ih1 ih2 ih3 =>
    intro pl h
    simp only [place] at h
    cases ha : a.place with
    | none =>
      simp [ha] at h
      subst h
      simp [dep]
      omega
    | some p =>
      simp [ha] at h
      subst h
      have := ih1 ha
      simp [dep]
      omega
  | num n => intro pl h; cases h
  | name n => intro pl h; cases h
  | «at» n => intro pl h; cases h
/-- the head of a term that a step works on -/
def redex : Tm → Bool
  | u1 .fn _ => false | u1 .again _ => false | u2 .pair _ _ => false
  | u1 _ _ => true | u2 _ _ _ => true | u3 _ _ _ => true | _ => false
def isFn : Tm → Bool | u1 .fn _ => true | u1 .again _ => true | _ => false
def isPair : Tm → Bool | u2 .pair _ _ => true | _ => false
def isNum : Tm → Bool | num _ => true | _ => false
def isAt : Tm → Bool | .at _ => true | _ => false
def sums : W2 → Int → Int → Int
  | .plus, x, y => x + y | .minus, x, y => x - y | _, x, y => x * y
def inR (n : Int) : Bool := decide (-999999999 ≤ n ∧ n ≤ 999999999)
def faultN (w : W2) : Tm → Tm → Option Str
  | num x, num y => if inR (sums w x y) then none else some "great"
  | _, _ => some "kind"
def fault : Tm → Option Str
  | u2 .call f _ => if f.isFn then none else some "kind"
  | u2 .put a _ => if a.isAt then none else some "kind"
  | u2 w a b => faultN w a b
  | u1 .first p => if p.isPair then none else some "kind"
  | u1 .second p => if p.isPair then none else some "kind"
  | u1 .say a => if a.isNum then none else some "kind"
  | u1 .look a => if a.isAt then none else some "kind"
  | u3 a _ _ => if a.isNum then none else some "kind"
  | _ => none
end Tm
def made (bs : List Tm) : Tm → List Tm × Tm × List Int
  | .u1 .first (.u2 .pair a _) => (bs, a, [])
  | .u1 .second (.u2 .pair _ b) => (bs, b, [])
  | .u3 (.num n) b c => (bs, if n = 0 then b else c, [])
  | .u1 .box a => (bs ++ [a], .at bs.length, [])
  | .u1 .look (.at k) => (bs, bx bs k, [])
  | .u2 .put (.at k) v => (bs.set k v, v, [])
  | .u1 .say (.num n) => (bs, .num n, [n])
  | .u2 .call (.u1 .fn b) g => (bs, b.putIn [g] 0, [])
  | .u2 .call (.u1 .again b) g => (bs, b.putIn [g, .u1 .again b] 0, [])
  | .u2 w (.num x) (.num y) => (bs, .num (Tm.sums w x y), [])
  | t => (bs, t, [])
/-- where the step is: what stands there -/
theorem place_part {m : Nat} : ∀ (t : Tm) {pl : List Nat}, t.wf m 0 = true → t.place = some pl → ∃ u, t.partAt pl = some u ∧ u.redex = true ∧ u.wf m 0 = true ∧ pl.length + u.dep ≤ t.dep ∧ u.len ≤ t.len ∧ u.place = some [] := by
  have own : ∀ t : Tm, t.wf m 0 = true → t.place = some [] → t.redex = true := by
    intro t hw h
    cases t with
    | u1 w a =>
      cases e : (Tm.u1 w a).isVal with
      | true => simp [Tm.place, e] at h
      | false => cases w <;> first | rfl | cases e
    | u2 w a b =>
      cases w with
      | pair =>
        have hw' : (a.wf m 0 && b.wf m 0) = true := hw
        rw [Bool.and_eq_true] at hw'
        cases e : (Tm.u2 .pair a b).isVal with
        | true => simp [Tm.place, e] at h
        | false =>
          have e' : (a.isVal && b.isVal) = false := e
          simp only [Tm.place, e] at h
          cases ha : a.place with
          | some p => simp [ha] at h
          | none =>
            cases hb : b.place with
            | some p => simp [ha, hb] at h
            | none =>
              rw [Tm.place_none (wf_clX hw'.1) ha, Tm.place_none (wf_clX hw'.2) hb] at e'
              cases e'
      | _ => rfl
    | u3 a b c => rfl
    | _ => cases h
  intro t
  induction t with
  | u1 w a ih =>
    intro pl hw h
    cases e : (Tm.u1 w a).isVal with
    | true => simp [Tm.place, e] at h
    | false =>
      have hwa : a.wf m 0 = true := by cases w <;> first | exact hw | cases e
      have h' := h
      simp only [Tm.place, e] at h
      cases ha : a.place with
      | none =>
        simp [ha] at h
        subst h
        exact ⟨_, rfl, own _ hw h', hw, by simp, Nat.le_refl _, h'⟩
      | some p =>
        simp [ha] at h
        subst h
        obtain ⟨u, h1, h2, h3, h4, h5, h6⟩ := ih hwa ha
        exact ⟨u, h1, h2, h3, by simp [Tm.dep]; omega, by simp [Tm.len]; omega, h6⟩
  | u2 w a b ih1 ih2 =>
    intro pl hw h
    have hw' : (a.wf m 0 && b.wf m 0) = true := hw
    rw [Bool.and_eq_true] at hw'
    cases e : (Tm.u2 w a b).isVal with
    | true => simp [Tm.place, e] at h
    | false =>
      have h' := h
      simp only [Tm.place, e] at h
      cases ha : a.place with
      | none =>
        cases hb : b.place with
        | none =>
          simp [ha, hb] at h
          subst h
          exact ⟨_, rfl, own _ hw h', hw, by simp, Nat.le_refl _, h'⟩
        | some p =>
          simp [ha, hb] at h
          subst h
          obtain ⟨u, h1, h2, h3, h4, h5, h6⟩ := ih2 hw'.2 hb
          exact ⟨u, h1, h2, h3, by simp [Tm.dep]; omega, by simp [Tm.len]; omega, h6⟩
      | some p =>
        simp [ha] at h
        subst h
        obtain ⟨u, h1, h2, h3, h4, h5, h6⟩ := ih1 hw'.1 ha
        exact ⟨u, h1, h2, h3, by simp [Tm.dep]; omega, by simp [Tm.len]; omega, h6⟩
  | u3 a b c ih1 ih2 ih3 =>
    intro pl hw h
    have hw' : (a.wf m 0 && b.wf m 0 && c.wf m 0) = true := hw
    rw [Bool.and_eq_true, Bool.and_eq_true] at hw'
    have h' := h
    simp only [Tm.place] at h
    cases ha : a.place with
    | none =>
      simp [ha] at h
      subst h
      exact ⟨_, rfl, rfl, hw, by simp, Nat.le_refl _, h'⟩
    | some p =>
      simp [ha] at h
      subst h
      obtain ⟨u, h1, h2, h3, h4, h5, h6⟩ := ih1 hw'.1.1 ha
      exact ⟨u, h1, h2, h3, by simp [Tm.dep]; omega, by simp [Tm.len]; omega, h6⟩
  | num n => intro pl _ h; cases h
  | name k => intro pl _ h; cases h
  | «at» k => intro pl _ h; cases h
theorem num_or (t : Tm) : (∃ x, t = .num x) ∨ t.isNum = false := by
  cases t <;> first | exact .inl ⟨_, rfl⟩ | exact .inr rfl
theorem faultN_a {w : W2} {a b : Tm} (h : a.isNum = false) : Tm.faultN w a b = some ("kind" : Str) := by
  cases a <;> first | rfl | (cases h; done)
theorem faultN_b {w : W2} {a b : Tm} (h : b.isNum = false) : Tm.faultN w a b = some ("kind" : Str) := by
  cases a <;> cases b <;> first | rfl | (cases h; done)
def outcome (t : Tm) : Str := match t.place with
  | none => "end"
  | some pl => match t.partAt pl with
    | none => "end"
    | some u => match u.fault with
      | none => "step"
      | some z => z
def Tm.isCall : Tm → Bool | .u2 .call _ _ => true | _ => false
theorem pair_of {a : Tm} (h : a.isPair = true) : ∃ x y, a = .u2 .pair x y := by
  cases a with
  | u2 w x y => cases w <;> first | exact ⟨x, y, rfl⟩ | cases h
  | _ => cases h
theorem num_of {a : Tm} (h : a.isNum = true) : ∃ x, a = .num x := by
  cases a <;> first | exact ⟨_, rfl⟩ | cases h
theorem at_of {a : Tm} (h : a.isAt = true) : ∃ x, a = .at x := by
  cases a <;> first | exact ⟨_, rfl⟩ | cases h
theorem fn_of {a : Tm} (h : a.isFn = true) : ∃ b, a = .u1 .fn b ∨ a = .u1 .again b := by
  cases a with
  | u1 w x => cases w <;> first | exact ⟨x, .inl rfl⟩ | exact ⟨x, .inr rfl⟩ | cases h
  | _ => cases h
theorem ite_none {b : Bool} {z : Str} (h : (if b = true then none else some z) = none) : b = true := by
  cases b with
  | true => rfl
  | false => cases h
theorem arith_of {w : W2} {a b : Tm} (h : Tm.faultN w a b = none) : ∃ x y, a = .num x ∧ b = .num y := by
  rcases num_or a with ⟨x, rfl⟩ | ha
  · rcases num_or b with ⟨y, rfl⟩ | hb
    · exact ⟨x, y, rfl, rfl⟩
    · rw [faultN_b hb] at h
      cases h
  · rw [faultN_a ha] at h
    cases h
theorem inR_of {w : W2} {x y : Int} (h : Tm.faultN w (.num x) (.num y) = none) : Tm.inR (Tm.sums w x y) = true := by
  have h' : (if Tm.inR (Tm.sums w x y) = true then none else some ("great" : Str)) = none := h
  exact ite_none h'
end FS
set_option maxHeartbeats 4000000
/-! Renumbering, putting in, replacing: lengths, depths, well-formedness; tidied twice is tidied once. -/
namespace FS
open PySem PySem.Spec PyProof.Rows L2
theorem renum_len (ks : List Nat) (t : Tm) : (t.renum ks).len = t.len := by
  induction t with
  | num n => rfl
  | name n => rfl
  | «at» n => rfl
  | u1 w a ih => simp only [Tm.renum, Tm.len, ih]
  | u2 w a b ih1 ih2 => simp only [Tm.renum, Tm.len, ih1, ih2]
  | u3 a b c ih1 ih2 ih3 => simp only [Tm.renum, Tm.len, ih1, ih2, ih3]
theorem renum_dep (ks : List Nat) (t : Tm) : (t.renum ks).dep = t.dep := by
  induction t with
  | num n => rfl
  | name n => rfl
  | «at» n => rfl
  | u1 w a ih => simp only [Tm.renum, Tm.dep, ih]
  | u2 w a b ih1 ih2 => simp only [Tm.renum, Tm.dep, ih1, ih2]
  | u3 a b c ih1 ih2 ih3 => simp only [Tm.renum, Tm.dep, ih1, ih2, ih3]
theorem renum_val (ks : List Nat) (t : Tm) : (t.renum ks).isVal = t.isVal := by
  induction t with
  | num n => rfl
  | name n => rfl
  | «at» n => rfl
  | u1 w a ih => cases w <;> rfl
  | u2 w a b ih1 ih2 => cases w <;> first | rfl | simp only [Tm.renum, Tm.isVal, ih1, ih2]
  | u3 a b c ih1 ih2 ih3 => rfl
theorem renum_wf {m : Nat} {ks : List Nat} (t : Tm) : ∀ {d : Nat}, t.wf m d = true → (∀ k, t.has k = true → k ∈ ks) → (t.renum ks).wf ks.length d = true := by
  induction t with
  | num n => intro d h _; exact h
  | name n => intro d h _; exact h
  | «at» n =>
    intro d _ hk
    have h := hk n (by simp [Tm.has])
    simp only [Tm.renum, Tm.wf]
    exact decide_eq_true (List.idxOf_lt_length_of_mem h)
  | u1 w a ih => intro d h hk; exact ih h hk
  | u2 w a b ih1 ih2 =>
    intro d h hk
    have h' : (a.wf m d && b.wf m d) = true := h
    rw [Bool.and_eq_true] at h'
    show (_ && _) = true
    rw [ih1 h'.1 fun k e => hk k (by simp [Tm.has, e]), ih2 h'.2 fun k e => hk k (by simp [Tm.has, e])]
    rfl
  | u3 a b c ih1 ih2 ih3 =>
    intro d h hk
    have h' : (a.wf m d && b.wf m d && c.wf m d) = true := h
    rw [Bool.and_eq_true, Bool.and_eq_true] at h'
    show (_ && _ && _) = true
    rw [ih1 h'.1.1 fun k e => hk k (by simp [Tm.has, e]), ih2 h'.1.2 fun k e => hk k (by simp [Tm.has, e]), ih3 h'.2 fun k e => hk k (by simp [Tm.has, e])]
    rfl
theorem tidyB_len {bs : List Tm} {t : Tm} : (tidyB bs t).length = (met bs t).length := List.length_map _
theorem tidy_wf {bs : List Tm} {t : Tm} (hw : Wf bs t) : Wf (tidyB bs t) (tidyT bs t) := by
  refine ⟨fun b hb => ?_, ?_⟩
  · obtain ⟨k, hk, rfl⟩ := List.mem_map.mp hb
    obtain ⟨_, hm⟩ := bx_mem (met_lt hw hk)
    rw [tidyB_len]
    exact ⟨renum_wf _ (hw.bx _ hm).1 fun j hj => met_closed hw hk hj, by rw [renum_val]; exact (hw.bx _ hm).2⟩
  · rw [tidyB_len]
    exact renum_wf _ hw.tm fun j hj => met_has hj
/-- the boxes met are numbered as they are met -/
theorem renum_ats {ks : List Nat} (t : Tm) : ∀ {l : List Nat}, (∀ k, t.has k = true → k ∈ ks) → (∀ k ∈ l, k ∈ ks) → (t.renum ks).atsF (l.map ks.idxOf) = (t.atsF l).map ks.idxOf := by
  have inj : ∀ {j k : Nat}, j ∈ ks → k ∈ ks → ks.idxOf j = ks.idxOf k → j = k := by
    intro j k hj hk e
    have h1 := List.getElem_idxOf (List.idxOf_lt_length_of_mem hj)
    have h2 := List.getElem_idxOf (List.idxOf_lt_length_of_mem hk)
    rw [← h1, ← h2]
    congr 1
  have ha : ∀ {l : List Nat} {k : Nat}, k ∈ ks → (∀ k ∈ l, k ∈ ks) → Tm.addAt (l.map ks.idxOf) (ks.idxOf k) = (Tm.addAt l k).map ks.idxOf := by
    intro l k hk hl
    unfold Tm.addAt
    by_cases h : k ∈ l
    · rw [if_pos h, if_pos (List.mem_map.mpr ⟨k, h, rfl⟩)]
    · rw [if_neg h, if_neg (fun z => by
        obtain ⟨j, hj, e⟩ := List.mem_map.mp z
        exact h (inj (hl j hj) hk e ▸ hj)), List.map_append]
      rfl
  have sub : ∀ (a : Tm) {l : List Nat}, (∀ k, a.has k = true → k ∈ ks) → (∀ k ∈ l, k ∈ ks) → ∀ k ∈ a.atsF l, k ∈ ks := fun a l h1 h2 k hk => ((atsF_has a).mp hk).elim (h2 k) (h1 k)
  induction t with
  | num n => intro l _ _; rfl
  | name n => intro l _ _; rfl
  | «at» n => intro l h1 h2; exact ha (h1 n (by simp [Tm.has])) h2
  | u1 w a ih => intro l h1 h2; exact ih h1 h2
  | u2 w a b ih1 ih2 =>
    intro l h1 h2
    have h3 : ∀ k, a.has k = true → k ∈ ks := fun k e => h1 k (by simp [Tm.has, e])
    have h4 : ∀ k, b.has k = true → k ∈ ks := fun k e => h1 k (by simp [Tm.has, e])
    show (b.renum ks).atsF ((a.renum ks).atsF _) = _
    rw [ih1 h3 h2, ih2 h4 (sub a h3 h2)]
    rfl
  | u3 a b c ih1 ih2 ih3 =>
    intro l h1 h2
    have h3 : ∀ k, a.has k = true → k ∈ ks := fun k e => h1 k (by simp [Tm.has, e])
    have h4 : ∀ k, b.has k = true → k ∈ ks := fun k e => h1 k (by simp [Tm.has, e])
    have h5 : ∀ k, c.has k = true → k ∈ ks := fun k e => h1 k (by simp [Tm.has, e])
    show (c.renum ks).atsF ((b.renum ks).atsF ((a.renum ks).atsF _)) = _
    rw [ih1 h3 h2, ih2 h4 (sub a h3 h2), ih3 h5 (sub b h4 (sub a h3 h2))]
    rfl
theorem renum_range {n : Nat} (t : Tm) : (∀ k, t.has k = true → k < n) → t.renum (List.range n) = t := by
  induction t with
  | num n => intro _; rfl
  | name n => intro _; rfl
  | «at» k =>
    intro h
    have hk := h k (by simp [Tm.has])
    simp only [Tm.renum]
    congr 1
    have h1 := List.getElem_idxOf (List.idxOf_lt_length_of_mem (List.mem_range.mpr hk))
    rw [List.getElem_range] at h1
    exact h1
  | u1 w a ih => intro h; simp only [Tm.renum]; rw [ih h]
  | u2 w a b ih1 ih2 => intro h; simp only [Tm.renum]; rw [ih1 fun k e => h k (by simp [Tm.has, e]), ih2 fun k e => h k (by simp [Tm.has, e])]
  | u3 a b c ih1 ih2 ih3 => intro h; simp only [Tm.renum]; rw [ih1 fun k e => h k (by simp [Tm.has, e]), ih2 fun k e => h k (by simp [Tm.has, e]), ih3 fun k e => h k (by simp [Tm.has, e])]
section
variable {bs : List Tm} {t : Tm}
theorem metN_sub (hw : Wf bs t) : ∀ n, ∀ k ∈ metN bs t n, k ∈ met bs t
  | n => by
    have pre : ∀ p q, p ≤ q → ∀ k ∈ metN bs t p, k ∈ metN bs t q := by
      intro p q h
      induction h with
      | refl => exact fun k hk => hk
      | step h ih =>
        intro k hk
        obtain ⟨e, he⟩ := metN_pre (bs := bs) (t := t) _
        rw [he]
        exact List.mem_append.mpr (.inl (ih k hk))
    intro k hk
    by_cases h : n ≤ bs.length
    · exact pre n _ h k hk
    · have e : metN bs t n = met bs t := metN_stop (n := bs.length) (metN_len hw _) n (by omega)
      rw [← e]
      exact hk
theorem bx_tidy (hw : Wf bs t) {k : Nat} (hk : k ∈ met bs t) : bx (tidyB bs t) ((met bs t).idxOf k) = (bx bs k).renum (met bs t) := by
  unfold bx tidyB
  have hl := List.idxOf_lt_length_of_mem hk
  rw [List.getD_eq_getElem?_getD, List.getElem?_map, List.getElem?_eq_getElem hl, List.getElem_idxOf hl]
  rfl
theorem metN_tidy (hw : Wf bs t) : ∀ n, metN (tidyB bs t) (tidyT bs t) n = (metN bs t n).map (met bs t).idxOf
  | 0 => by
    have h := renum_ats (ks := met bs t) t (l := []) (fun k hk => met_has hk) (fun k hk => by cases hk)
    exact h
  | n + 1 => by
    rw [metN_succ, metN_succ, metN_tidy hw n]
    unfold stepM
    rw [List.getElem?_map]
    cases e : (metN bs t n)[n]? with
    | none => rfl
    | some k =>
      have hk := metN_sub hw n k (List.mem_of_getElem? e)
      show (bx (tidyB bs t) ((met bs t).idxOf k)).atsF _ = _
      rw [bx_tidy hw hk]
      exact renum_ats _ (fun j hj => met_closed hw hk hj) (metN_sub hw n)
theorem map_idxOf : ∀ {ks : List Nat}, ks.Nodup → ks.map ks.idxOf = List.range ks.length := by
  intro ks hn
  refine List.ext_getElem (by simp) fun i h1 h2 => ?_
  rw [List.getElem_map, List.getElem_range]
  rw [List.length_map] at h1
  exact hn.idxOf_getElem i h1
theorem met_tidy (hw : Wf bs t) : met (tidyB bs t) (tidyT bs t) = List.range (met bs t).length := by
  have h1 : metN bs t (met bs t).length = met bs t := by
    have hle : (metN bs t (met bs t).length).length ≤ (met bs t).length := nodup_sub (metN_ok hw _).1 (metN_sub hw _)
    exact (metN_stop hle bs.length (metN_len hw _)).symm
  unfold met
  rw [tidyB_len, metN_tidy hw, h1, map_idxOf (met_nodup hw)]
  rfl
/-- a program that is tidied -/
structure Tid (bs : List Tm) (t : Tm) : Prop where
  b : tidyB bs t = bs
  t : tidyT bs t = t
theorem tidy_tid (hw : Wf bs t) : Tid (tidyB bs t) (tidyT bs t) := by
  have hw' := tidy_wf hw
  have hl : (tidyB bs t).length = (met bs t).length := tidyB_len
  refine ⟨?_, ?_⟩
  · unfold tidyB
    rw [show met ((met bs t).map fun k => (bx bs k).renum (met bs t)) (tidyT bs t) = List.range (met bs t).length from met_tidy hw]
    refine List.ext_getElem (by simp) fun i h1 h2 => ?_
    simp only [List.getElem_map, List.getElem_range]
    simp only [List.length_map] at h2
    have h3 : i < (tidyB bs t).length := by rw [hl]; exact h2
    obtain ⟨e1, e2⟩ := bx_mem h3
    have e3 : bx (tidyB bs t) i = (bx bs (met bs t)[i]).renum (met bs t) := by
      have : (tidyB bs t)[i]? = some ((bx bs (met bs t)[i]).renum (met bs t)) := by
        unfold tidyB
        rw [List.getElem?_map, List.getElem?_eq_getElem h2]
        rfl
      rw [this] at e1
      exact (Option.some.inj e1).symm
    show (bx (tidyB bs t) i).renum _ = _
    rw [renum_range _ fun k hk => by rw [← hl]; exact wf_has _ (hw'.bx _ e2).1 hk, e3]
  · unfold tidyT
    rw [show met (tidyB bs t) (t.renum (met bs t)) = List.range (met bs t).length from met_tidy hw]
    exact renum_range _ fun k hk => by rw [← hl]; exact wf_has _ hw'.tm hk
end
end FS
set_option maxHeartbeats 4000000
/-! One step keeps a program well formed; lengths and depths of what a step makes. -/
namespace FS
open PySem PySem.Spec PyProof.Rows L2
theorem wf_up {m m' : Nat} (hm : m ≤ m') (t : Tm) : ∀ {d d' : Nat}, d ≤ d' → t.wf m d = true → t.wf m' d' = true := by
  induction t with
  | num n => intro d d' _ h; exact h
  | name n =>
    intro d d' hd h
    have h' : n < d := of_decide_eq_true h
    exact decide_eq_true (by omega)
  | «at» n =>
    intro d d' hd h
    have h' : n < m := of_decide_eq_true h
    exact decide_eq_true (by omega)
  | u1 w a ih => intro d d' hd h; exact ih (by omega) h
  | u2 w a b ih1 ih2 =>
    intro d d' hd h
    have h' : (a.wf m d && b.wf m d) = true := h
    rw [Bool.and_eq_true] at h'
    show (_ && _) = true
    rw [ih1 hd h'.1, ih2 hd h'.2]
    rfl
  | u3 a b c ih1 ih2 ih3 =>
    intro d d' hd h
    have h' : (a.wf m d && b.wf m d && c.wf m d) = true := h
    rw [Bool.and_eq_true, Bool.and_eq_true] at h'
    show (_ && _ && _) = true
    rw [ih1 hd h'.1.1, ih2 hd h'.1.2, ih3 hd h'.2]
    rfl
theorem putIn_wf {m : Nat} {gs : List Tm} (hg : ∀ g ∈ gs, g.wf m 0 = true) (t : Tm) : ∀ {d : Nat}, t.wf m (d + gs.length) = true → (t.putIn gs d).wf m d = true := by
  induction t with
  | num n => intro d h; exact h
  | name n =>
    intro d h
    have h' : n < d + gs.length := of_decide_eq_true h
    unfold Tm.putIn
    by_cases e : n < d
    · rw [if_pos e]
      exact decide_eq_true e
    · rw [if_neg e]
      have e1 : gs[n - d]? = some gs[n - d] := List.getElem?_eq_getElem (by omega)
      rw [e1]
      exact wf_up (Nat.le_refl _) _ (Nat.zero_le _) (hg _ (List.getElem_mem _))
  | «at» n => intro d h; exact h
  | u1 w a ih =>
    intro d h
    have h' : a.wf m (d + gs.length + w.b) = true := h
    rw [Nat.add_right_comm] at h'
    exact ih h'
  | u2 w a b ih1 ih2 =>
    intro d h
    have h' : (a.wf m (d + gs.length) && b.wf m (d + gs.length)) = true := h
    rw [Bool.and_eq_true] at h'
    show (_ && _) = true
    rw [ih1 h'.1, ih2 h'.2]
    rfl
  | u3 a b c ih1 ih2 ih3 =>
    intro d h
    have h' : (a.wf m (d + gs.length) && b.wf m (d + gs.length) && c.wf m (d + gs.length)) = true := h
    rw [Bool.and_eq_true, Bool.and_eq_true] at h'
    show (_ && _ && _) = true
    rw [ih1 h'.1.1, ih2 h'.1.2, ih3 h'.2]
    rfl
theorem putIn_dep {gs : List Tm} {D : Nat} (hg : ∀ g ∈ gs, g.dep ≤ D) (t : Tm) : ∀ {d : Nat}, (t.putIn gs d).dep ≤ t.dep + D := by
  induction t with
  | num n => intro d; simp [Tm.putIn, Tm.dep]
  | name n =>
    intro d
    unfold Tm.putIn
    split
    · simp [Tm.dep]
    · split
      · rename_i g e
        have := hg g (List.mem_of_getElem? e)
        omega
      · simp [Tm.dep]
  | «at» n => intro d; simp [Tm.putIn, Tm.dep]
  | u1 w a ih => intro d; have := ih (d := d + w.b); simp only [Tm.putIn, Tm.dep]; omega
  | u2 w a b ih1 ih2 => intro d; have := ih1 (d := d); have := ih2 (d := d); simp only [Tm.putIn, Tm.dep]; omega
  | u3 a b c ih1 ih2 ih3 => intro d; have := ih1 (d := d); have := ih2 (d := d); have := ih3 (d := d); simp only [Tm.putIn, Tm.dep]; omega
/-- what the parts looked at become -/
theorem repl_wf {m m' : Nat} (hm : m ≤ m') {r : Tm} (hr : r.wf m' 0 = true) : ∀ (t : Tm) {pl : List Nat}, t.wf m 0 = true → t.place = some pl → (t.repl pl r).wf m' 0 = true := by
  intro t
  induction t with
  | u1 w a ih =>
    intro pl hw h
    cases e : (Tm.u1 w a).isVal with
    | true => simp [Tm.place, e] at h
    | false =>
      have hb : w.b = 0 := by cases w <;> first | rfl | cases e
      have hwa : a.wf m 0 = true := by
        have h2 : a.wf m (0 + w.b) = true := hw
        rwa [hb] at h2
      simp only [Tm.place, e] at h
      cases ha : a.place with
      | none =>
        simp [ha] at h
        subst h
        exact hr
      | some p =>
        simp [ha] at h
        subst h
        have h3 := ih hwa ha
        show (Tm.u1 w (a.repl p r)).wf m' 0 = true
        show (a.repl p r).wf m' (0 + w.b) = true
        rw [hb]
        exact h3
  | u2 w a b ih1 ih2 =>
    intro pl hw h
    have hw' : (a.wf m 0 && b.wf m 0) = true := hw
    rw [Bool.and_eq_true] at hw'
    cases e : (Tm.u2 w a b).isVal with
    | true => simp [Tm.place, e] at h
    | false =>
      simp only [Tm.place, e] at h
      cases ha : a.place with
      | none =>
        cases hb : b.place with
        | none =>
          simp [ha, hb] at h
          subst h
          exact hr
        | some p =>
          simp [ha, hb] at h
          subst h
          show (a.wf m' 0 && (b.repl p r).wf m' 0) = true
          rw [wf_up hm a (Nat.le_refl 0) hw'.1, ih2 hw'.2 hb]
          rfl
      | some p =>
        simp [ha] at h
        subst h
        show ((a.repl p r).wf m' 0 && b.wf m' 0) = true
        rw [wf_up hm b (Nat.le_refl 0) hw'.2, ih1 hw'.1 ha]
        rfl
  | u3 a b c ih1 ih2 ih3 =>
    intro pl hw h
    have hw' : (a.wf m 0 && b.wf m 0 && c.wf m 0) = true := hw
    rw [Bool.and_eq_true, Bool.and_eq_true] at hw'
    simp only [Tm.place] at h
    cases ha : a.place with
    | none =>
      simp [ha] at h
      subst h
      exact hr
    | some p =>
      simp [ha] at h
      subst h
      show ((a.repl p r).wf m' 0 && b.wf m' 0 && c.wf m' 0) = true
      rw [wf_up hm b (Nat.le_refl 0) hw'.1.2, wf_up hm c (Nat.le_refl 0) hw'.2, ih1 hw'.1.1 ha]
      rfl
  | num n => intro pl _ h; cases h
  | name n => intro pl _ h; cases h
  | «at» n => intro pl _ h; cases h
/-- lengths and depths behind a replacement -/
theorem repl_size {r : Tm} : ∀ (t : Tm) {pl : List Nat} {u : Tm}, t.partAt pl = some u → (t.repl pl r).len + u.len = t.len + r.len ∧ pl.length + r.dep ≤ (t.repl pl r).dep ∧ (t.repl pl r).dep ≤ max t.dep (pl.length + r.dep) ∧ pl.length + u.dep ≤ t.dep := by
  intro t
  induction t with
  | u1 w a ih =>
    intro pl u h
    match pl, h with
    | [], h => cases h; simp [Tm.repl]; omega
    | 0 :: is, h =>
      obtain ⟨h1, h2, h3, h4⟩ := ih (pl := is) (u := u) h
      show (Tm.u1 w (a.repl is r)).len + u.len = _ ∧ _ ≤ (Tm.u1 w (a.repl is r)).dep ∧ (Tm.u1 w (a.repl is r)).dep ≤ _ ∧ _
      simp only [Tm.len, Tm.dep, List.length_cons]
      omega
    | (i + 1) :: is, h => simp [Tm.partAt, Tm.parts] at h
  | u2 w a b ih1 ih2 =>
    intro pl u h
    match pl, h with
    | [], h => cases h; simp [Tm.repl]; omega
    | 0 :: is, h =>
      obtain ⟨h1, h2, h3, h4⟩ := ih1 (pl := is) (u := u) h
      show (Tm.u2 w (a.repl is r) b).len + u.len = _ ∧ _ ≤ (Tm.u2 w (a.repl is r) b).dep ∧ (Tm.u2 w (a.repl is r) b).dep ≤ _ ∧ _
      simp only [Tm.len, Tm.dep, List.length_cons]
      omega
    | 1 :: is, h =>
      obtain ⟨h1, h2, h3, h4⟩ := ih2 (pl := is) (u := u) h
      show (Tm.u2 w a (b.repl is r)).len + u.len = _ ∧ _ ≤ (Tm.u2 w a (b.repl is r)).dep ∧ (Tm.u2 w a (b.repl is r)).dep ≤ _ ∧ _
      simp only [Tm.len, Tm.dep, List.length_cons]
      omega
    | (i + 2) :: is, h => simp [Tm.partAt, Tm.parts] at h
  | u3 a b c ih1 ih2 ih3 =>
    intro pl u h
    match pl, h with
    | [], h => cases h; simp [Tm.repl]; omega
    | 0 :: is, h =>
      obtain ⟨h1, h2, h3, h4⟩ := ih1 (pl := is) (u := u) h
      show (Tm.u3 (a.repl is r) b c).len + u.len = _ ∧ _ ≤ (Tm.u3 (a.repl is r) b c).dep ∧ (Tm.u3 (a.repl is r) b c).dep ≤ _ ∧ _
      simp only [Tm.len, Tm.dep, List.length_cons]
      omega
    | 1 :: is, h =>
      obtain ⟨h1, h2, h3, h4⟩ := ih2 (pl := is) (u := u) h
      show (Tm.u3 a (b.repl is r) c).len + u.len = _ ∧ _ ≤ (Tm.u3 a (b.repl is r) c).dep ∧ (Tm.u3 a (b.repl is r) c).dep ≤ _ ∧ _
      simp only [Tm.len, Tm.dep, List.length_cons]
      omega
    | 2 :: is, h =>
      obtain ⟨h1, h2, h3, h4⟩ := ih3 (pl := is) (u := u) h
      show (Tm.u3 a b (c.repl is r)).len + u.len = _ ∧ _ ≤ (Tm.u3 a b (c.repl is r)).dep ∧ (Tm.u3 a b (c.repl is r)).dep ≤ _ ∧ _
      simp only [Tm.len, Tm.dep, List.length_cons]
      omega
    | (i + 3) :: is, h => simp [Tm.partAt, Tm.parts] at h
  | num n =>
    intro pl u h
    match pl, h with
    | [], h => cases h; simp [Tm.repl]; omega
    | i :: is, h => simp [Tm.partAt, Tm.parts] at h
  | name n =>
    intro pl u h
    match pl, h with
    | [], h => cases h; simp [Tm.repl]; omega
    | i :: is, h => simp [Tm.partAt, Tm.parts] at h
  | «at» n =>
    intro pl u h
    match pl, h with
    | [], h => cases h; simp [Tm.repl]; omega
    | i :: is, h => simp [Tm.partAt, Tm.parts] at h
end FS
set_option maxHeartbeats 4000000
/-! One step, plain. -/
namespace FS
open PySem PySem.Spec PyProof.Rows L2
/-- one step: the boxes, the term, what is said -/
def stepP (bs : List Tm) (t : Tm) : List Tm × Tm × List Int := match t.place with
  | none => (bs, t, [])
  | some pl => match t.partAt pl with
    | none => (bs, t, [])
    | some u => ((made bs u).1, t.repl pl (made bs u).2.1, (made bs u).2.2)
/-- a step's place, part -/
theorem step_at {m : Nat} {t : Tm} (hw : t.wf m 0 = true) (h : outcome t = "step") : ∃ pl u, t.place = some pl ∧ t.partAt pl = some u ∧ u.fault = none ∧ u.redex = true ∧ u.wf m 0 = true ∧ u.place = some [] ∧ u.len ≤ t.len := by
  cases e : t.place with
  | none =>
    simp only [outcome, e] at h
    exact absurd h (by decide +kernel)
  | some pl =>
    obtain ⟨u, h1, h2, h3, h4, h5, h6⟩ := place_part t hw e
    cases ef : u.fault with
    | none => exact ⟨pl, u, rfl, h1, ef, h2, h3, h6, h5⟩
    | some z =>
      simp only [outcome, e, h1, ef] at h
      subst h
      exfalso
      have hz : ∀ v : Tm, v.fault ≠ some ("step" : Str) := by
        intro v hv
        have k1 : (some ("kind" : Str)) ≠ some ("step" : Str) := by decide +kernel
        have k2 : (some ("great" : Str)) ≠ some ("step" : Str) := by decide +kernel
        have kb : ∀ b : Bool, (if b = true then none else some ("kind" : Str)) ≠ some ("step" : Str) := fun b e => by
          cases b with
          | true => cases e
          | false => exact k1 e
        have kg : ∀ b : Bool, (if b = true then none else some ("great" : Str)) ≠ some ("step" : Str) := fun b e => by
          cases b with
          | true => cases e
          | false => exact k2 e
        have kn : ∀ w a b, Tm.faultN w a b ≠ some ("step" : Str) := fun w a b e => by
          rcases num_or a with ⟨x, rfl⟩ | ha
          · rcases num_or b with ⟨y, rfl⟩ | hb
            · exact kg (Tm.inR (Tm.sums w x y)) e
            · rw [faultN_b hb] at e
              exact k1 e
          · rw [faultN_a ha] at e
            exact k1 e
        cases v with
        | u1 w a => cases w <;> first | (cases hv; done) | exact kb _ hv
        | u2 w a b => cases w <;> first | exact kb _ hv | exact kn _ _ _ hv
        | u3 a b c => exact kb _ hv
        | _ => cases hv
      exact hz u ef
theorem place_parts {u : Tm} {m : Nat} (hr : u.redex = true) (hw : u.wf m 0 = true) (h : u.place = some []) : (∀ w a, u = .u1 w a → a.isVal = true) ∧ (∀ w a b, u = .u2 w a b → a.isVal = true ∧ b.isVal = true) := by
  refine ⟨fun w a e => ?_, fun w a b e => ?_⟩
  · subst e
    have hb : w.b = 0 := by cases w <;> first | rfl | cases hr
    have ha : a.wf m 0 = true := by
      have h2 : a.wf m (0 + w.b) = true := hw
      rwa [hb] at h2
    cases ev : (Tm.u1 w a).isVal with
    | true => simp [Tm.place, ev] at h
    | false =>
      simp only [Tm.place, ev] at h
      cases ep : a.place with
      | none => exact Tm.place_none (wf_clX ha) ep
      | some p => simp [ep] at h
  · subst e
    have hw' : (a.wf m 0 && b.wf m 0) = true := hw
    rw [Bool.and_eq_true] at hw'
    cases ev : (Tm.u2 w a b).isVal with
    | true => simp [Tm.place, ev] at h
    | false =>
      simp only [Tm.place, ev] at h
      cases ep : a.place with
      | none =>
        cases eq : b.place with
        | none => exact ⟨Tm.place_none (wf_clX hw'.1) ep, Tm.place_none (wf_clX hw'.2) eq⟩
        | some p => simp [ep, eq] at h
      | some p => simp [ep] at h
/-- what a step makes -/
structure MadeOk (bs : List Tm) (u : Tm) (c : List Tm) (r : Tm) : Prop where
  le : bs.length ≤ c.length
  lt : c.length ≤ bs.length + 1
  bx : ∀ b ∈ c, b.wf c.length 0 = true ∧ b.isVal = true ∧ (b ∈ bs ∨ b.len ≤ u.len ∧ b.dep ≤ u.dep)
  tm : r.wf c.length 0 = true
  call : u.isCall = false → r.len ≤ u.len ∨ r ∈ bs
  callD : u.isCall = false → r.dep ≤ u.dep ∨ r ∈ bs
  dep : u.isCall = true → r.dep + 2 ≤ 2 * u.dep ∧ c = bs
theorem made_ok {bs : List Tm} {u : Tm} (hb : ∀ b ∈ bs, b.wf bs.length 0 = true ∧ b.isVal = true) (hr : u.redex = true) (hf : u.fault = none) (hw : u.wf bs.length 0 = true) (hp : u.place = some []) : MadeOk bs u (made bs u).1 (made bs u).2.1 := by
  obtain ⟨v1, v2⟩ := place_parts hr hw hp
  have same : ∀ b ∈ bs, b.wf bs.length 0 = true ∧ b.isVal = true ∧ (b ∈ bs ∨ b.len ≤ u.len ∧ b.dep ≤ u.dep) := fun b h => ⟨(hb b h).1, (hb b h).2, .inl h⟩
  cases u with
  | u1 w a =>
    cases w with
    | fn => cases hr
    | again => cases hr
    | box =>
      have hup : ∀ b : Tm, b.wf bs.length 0 = true → b.wf (bs ++ [a]).length 0 = true := fun b h => wf_up (by simp) b (Nat.le_refl 0) h
      refine ⟨by simp [made], by simp [made], fun b h => ?_, ?_, fun _ => .inl ?_, fun _ => .inl ?_, fun h => by cases h⟩
      · rcases List.mem_append.mp h with h | h
        · exact ⟨hup b (hb b h).1, (hb b h).2, .inl h⟩
        · have e := List.mem_singleton.mp h
          subst e
          exact ⟨hup b hw, v1 _ _ rfl, .inr ⟨by simp [Tm.len] <;> omega, by simp [Tm.dep] <;> omega⟩⟩
      · show decide (bs.length < (bs ++ [a]).length) = true
        simp
      · simp [made, Tm.len] <;> omega
      · simp [made, Tm.dep] <;> omega
    | first =>
      obtain ⟨x, y, rfl⟩ := pair_of (ite_none hf)
      have hw' : (x.wf bs.length 0 && y.wf bs.length 0) = true := hw
      rw [Bool.and_eq_true] at hw'
      exact ⟨Nat.le_refl _, Nat.le_succ _, same, hw'.1, fun _ => .inl (by simp [made, Tm.len] <;> omega), fun _ => .inl (by simp [made, Tm.dep] <;> omega), fun h => by cases h⟩
    | second =>
      obtain ⟨x, y, rfl⟩ := pair_of (ite_none hf)
      have hw' : (x.wf bs.length 0 && y.wf bs.length 0) = true := hw
      rw [Bool.and_eq_true] at hw'
      exact ⟨Nat.le_refl _, Nat.le_succ _, same, hw'.2, fun _ => .inl (by simp [made, Tm.len] <;> omega), fun _ => .inl (by simp [made, Tm.dep] <;> omega), fun h => by cases h⟩
    | look =>
      obtain ⟨k, rfl⟩ := at_of (ite_none hf)
      have hk : k < bs.length := of_decide_eq_true hw
      obtain ⟨_, hm⟩ := bx_mem hk
      exact ⟨Nat.le_refl _, Nat.le_succ _, same, (hb _ hm).1, fun _ => .inr hm, fun _ => .inr hm, fun h => by cases h⟩
    | say =>
      obtain ⟨k, rfl⟩ := num_of (ite_none hf)
      exact ⟨Nat.le_refl _, Nat.le_succ _, same, hw, fun _ => .inl (by simp [made, Tm.len]), fun _ => .inl (by simp [made, Tm.dep]), fun h => by cases h⟩
  | u3 a b c =>
    obtain ⟨k, rfl⟩ := num_of (ite_none hf)
    have hw' : ((Tm.num k).wf bs.length 0 && b.wf bs.length 0 && c.wf bs.length 0) = true := hw
    rw [Bool.and_eq_true, Bool.and_eq_true] at hw'
    by_cases e : k = 0
    · have e1 : made bs (.u3 (.num k) b c) = (bs, b, []) := by simp [made, e]
      rw [e1]
      exact ⟨Nat.le_refl _, Nat.le_succ _, same, hw'.1.2, fun _ => .inl (by simp [Tm.len] <;> omega), fun _ => .inl (by simp [Tm.dep] <;> omega), fun h => by cases h⟩
    · have e1 : made bs (.u3 (.num k) b c) = (bs, c, []) := by simp [made, e]
      rw [e1]
      exact ⟨Nat.le_refl _, Nat.le_succ _, same, hw'.2, fun _ => .inl (by simp [Tm.len] <;> omega), fun _ => .inl (by simp [Tm.dep] <;> omega), fun h => by cases h⟩
  | u2 w a b =>
    have hw' : (a.wf bs.length 0 && b.wf bs.length 0) = true := hw
    rw [Bool.and_eq_true] at hw'
    cases w with
    | pair => cases hr
    | call =>
      obtain ⟨f, rfl | rfl⟩ := fn_of (ite_none hf)
      · refine ⟨Nat.le_refl _, Nat.le_succ _, same, ?_, fun h => (by cases h), fun h => (by cases h), fun _ => ⟨?_, rfl⟩⟩
        · exact putIn_wf (m := bs.length) (gs := [b]) (fun g hg => by rw [List.mem_singleton.mp hg]; exact hw'.2) f (d := 0) hw'.1
        · have := putIn_dep (gs := [b]) (D := b.dep) (fun g hg => by rw [List.mem_singleton.mp hg]; exact Nat.le_refl _) f (d := 0)
          show (f.putIn [b] 0).dep + 2 ≤ _
          simp only [Tm.dep]
          omega
      · refine ⟨Nat.le_refl _, Nat.le_succ _, same, ?_, fun h => (by cases h), fun h => (by cases h), fun _ => ⟨?_, rfl⟩⟩
        · exact putIn_wf (m := bs.length) (gs := [b, .u1 .again f]) (fun g hg => by
            rcases List.mem_cons.mp hg with rfl | hg
            · exact hw'.2
            · rw [List.mem_singleton.mp hg]
              exact hw'.1) f (d := 0) hw'.1
        · have := putIn_dep (gs := [b, .u1 .again f]) (D := max b.dep (1 + f.dep)) (fun g hg => by
            rcases List.mem_cons.mp hg with rfl | hg
            · exact Nat.le_max_left _ _
            · rw [List.mem_singleton.mp hg]
              exact Nat.le_max_right _ _) f (d := 0)
          show (f.putIn [b, .u1 .again f] 0).dep + 2 ≤ _
          simp only [Tm.dep]
          omega
    | put =>
      obtain ⟨k, rfl⟩ := at_of (ite_none hf)
      have hl : (bs.set k b).length = bs.length := List.length_set
      have hv := (v2 _ _ _ rfl).2
      refine ⟨by rw [show (made bs (.u2 .put (.at k) b)).1 = bs.set k b from rfl, hl]; exact Nat.le_refl _, by rw [show (made bs (.u2 .put (.at k) b)).1 = bs.set k b from rfl, hl]; exact Nat.le_succ _, fun c hc => ?_, ?_, fun _ => .inl (by simp [made, Tm.len] <;> omega), fun _ => .inl (by simp [made, Tm.dep] <;> omega), fun h => by cases h⟩
      · rw [show (made bs (.u2 .put (.at k) b)).1 = bs.set k b from rfl] at hc ⊢
        rw [hl]
        rcases List.mem_or_eq_of_mem_set hc with h | rfl
        · exact same c h
        · exact ⟨hw'.2, hv, .inr ⟨by simp [Tm.len] <;> omega, by simp [Tm.dep] <;> omega⟩⟩
      · show b.wf (bs.set k b).length 0 = true
        rw [hl]
        exact hw'.2
    | plus =>
      obtain ⟨x, y, rfl, rfl⟩ := arith_of hf
      refine ⟨Nat.le_refl _, Nat.le_succ _, same, ?_, fun _ => .inl (by simp [made, Tm.len]), fun _ => .inl (by simp [made, Tm.dep]), fun h => by cases h⟩
      exact inR_of hf
    | minus =>
      obtain ⟨x, y, rfl, rfl⟩ := arith_of hf
      refine ⟨Nat.le_refl _, Nat.le_succ _, same, ?_, fun _ => .inl (by simp [made, Tm.len]), fun _ => .inl (by simp [made, Tm.dep]), fun h => by cases h⟩
      exact inR_of hf
    | times =>
      obtain ⟨x, y, rfl, rfl⟩ := arith_of hf
      refine ⟨Nat.le_refl _, Nat.le_succ _, same, ?_, fun _ => .inl (by simp [made, Tm.len]), fun _ => .inl (by simp [made, Tm.dep]), fun h => by cases h⟩
      exact inR_of hf
  | _ => cases hr
/-- one step: well formed; how long, how deep -/
theorem step_wf {bs : List Tm} {t : Tm} (hw : Wf bs t) (h : outcome t = "step") : Wf (stepP bs t).1 (stepP bs t).2.1 := by
  obtain ⟨pl, u, h1, h2, h3, h4, h5, h6, h7⟩ := step_at hw.tm h
  have M := made_ok hw.bx h4 h3 h5 h6
  have e : stepP bs t = ((made bs u).1, t.repl pl (made bs u).2.1, (made bs u).2.2) := by simp only [stepP, h1, h2]
  rw [e]
  exact ⟨fun b hb => ⟨(M.bx b hb).1, (M.bx b hb).2.1⟩, repl_wf M.le M.tm t hw.tm h1⟩
/-! ### lengths behind tidying; a run -/
theorem sum_sub {g : Nat → Nat} : ∀ {l r : List Nat}, l.Nodup → (∀ k ∈ l, k ∈ r) → (l.map g).sum ≤ (r.map g).sum
  | [], _, _, _ => Nat.zero_le _
  | x :: l, r, hn, h => by
    rw [List.nodup_cons] at hn
    have hx := h x (List.mem_cons_self ..)
    have h1 := sum_sub (g := g) (l := l) (r := r.erase x) hn.2 fun k hk => (List.mem_erase_of_ne (fun e : k = x => hn.1 (by rw [← e]; exact hk))).mpr (h k (List.mem_cons_of_mem _ hk))
    have h2 : (r.map g).sum = ((x :: r.erase x).map g).sum := ((List.perm_cons_erase hx).map g).sum_nat
    rw [h2]
    simp only [List.map_cons, List.sum_cons]
    omega
theorem tidy_len {bs : List Tm} {t : Tm} (hw : Wf bs t) : lenP (tidyB bs t) (tidyT bs t) ≤ lenP bs t := by
  have h1 : ((tidyB bs t).map Tm.len) = (met bs t).map fun k => (bx bs k).len := by
    unfold tidyB
    rw [List.map_map]
    exact List.map_congr_left fun k _ => renum_len _ _
  have h2 : (List.range bs.length).map (fun k => (bx bs k).len) = bs.map Tm.len := by
    refine List.ext_getElem (by simp) fun i h3 h4 => ?_
    simp only [List.getElem_map, List.getElem_range]
    simp only [List.length_map] at h4
    have e := (bx_mem (bs := bs) h4).1
    rw [List.getElem?_eq_getElem h4] at e
    rw [Option.some.inj e]
  have h3 := sum_sub (g := fun k => (bx bs k).len) (met_nodup hw) (r := List.range bs.length) fun k hk => List.mem_range.mpr (met_lt hw hk)
  have h4 : (tidyT bs t).len = t.len := renum_len _ _
  unfold lenP
  rw [h1, h4]
  rw [h2] at h3
  omega
theorem tidy_fit {bs : List Tm} {t : Tm} (hw : Wf bs t) (h : Fit bs t) : Fit (tidyB bs t) (tidyT bs t) := by
  refine ⟨Nat.le_trans (tidy_len hw) h.1, fun b hb => ?_⟩
  rcases List.mem_cons.mp hb with rfl | hb
  · have e : (tidyT bs t).dep = t.dep := renum_dep _ _
    have := h.2 t (List.mem_cons_self ..)
    omega
  · obtain ⟨k, hk, rfl⟩ := List.mem_map.mp hb
    rw [renum_dep]
    exact h.2 _ (List.mem_cons_of_mem _ (bx_mem (met_lt hw hk)).2)
/-- what go_on keeps between two steps -/
structure Gd (bs : List Tm) (t : Tm) : Prop where
  wf : Wf bs t
  fit : Fit bs t
  few : bs.length < 1500
theorem fit_len {bs : List Tm} {t : Tm} (h : Fit bs t) : t.len ≤ 1500 ∧ (∀ b ∈ bs, b.len ≤ 1500) := by
  have h1 := h.1
  unfold lenP at h1
  refine ⟨by omega, fun b hb => ?_⟩
  have := mem_sum_le (List.mem_map.mpr ⟨b, hb, rfl⟩ : b.len ∈ bs.map Tm.len)
  omega
theorem fit_few {bs : List Tm} {t : Tm} (h : Fit bs t) : bs.length < 1500 := by
  have h1 := h.1
  unfold lenP at h1
  have h2 : ∀ l : List Tm, l.length ≤ (l.map Tm.len).sum := by
    intro l
    induction l with
    | nil => simp
    | cons x l ih =>
      have := Tm.len_pos x
      rw [List.map_cons, List.sum_cons, List.length_cons]
      omega
  have := h2 bs
  have := Tm.len_pos t
  omega
theorem fit_of_tidy {bs : List Tm} {t : Tm} (h : Fit (tidyB bs t) (tidyT bs t)) : Fit [] t := by
  have h1 := (fit_len h).1
  have h2 : (tidyT bs t).dep ≤ 60 := h.2 _ (List.mem_cons_self ..)
  have e1 : (tidyT bs t).len = t.len := renum_len _ _
  have e2 : (tidyT bs t).dep = t.dep := renum_dep _ _
  exact ⟨by unfold lenP; simp; omega, fun b hb => by rw [List.mem_singleton.mp hb]; omega⟩
theorem step_dep {bs : List Tm} {t : Tm} {n : Nat} (hw : Wf bs t) (h : outcome t = "step") (hd : ∀ b ∈ t :: bs, b.dep ≤ n) : (stepP bs t).2.1.dep ≤ n + n := by
  obtain ⟨pl, u, h1, h2, h3, h4, h5, h6, h7⟩ := step_at hw.tm h
  have M := made_ok hw.bx h4 h3 h5 h6
  have e : stepP bs t = ((made bs u).1, t.repl pl (made bs u).2.1, (made bs u).2.2) := by simp only [stepP, h1, h2]
  have hsz := repl_size (r := (made bs u).2.1) t h2
  have hdt := hd t (List.mem_cons_self ..)
  rw [e]
  show (t.repl pl (made bs u).2.1).dep ≤ n + n
  cases hc : u.isCall with
  | true =>
    have := (M.dep hc).1
    omega
  | false =>
    rcases M.callD hc with h | h
    · omega
    · have := hd _ (List.mem_cons_of_mem _ h)
      omega
theorem step_box {bs : List Tm} {t : Tm} {n l : Nat} (hw : Wf bs t) (h : outcome t = "step") (hd : ∀ b ∈ t :: bs, b.dep ≤ n) (hl : ∀ b ∈ t :: bs, b.len ≤ l) : (∀ b ∈ (stepP bs t).1, b.dep ≤ n ∧ b.len ≤ l) ∧ (stepP bs t).1.length ≤ bs.length + 1 := by
  obtain ⟨pl, u, h1, h2, h3, h4, h5, h6, h7⟩ := step_at hw.tm h
  have M := made_ok hw.bx h4 h3 h5 h6
  have e : stepP bs t = ((made bs u).1, t.repl pl (made bs u).2.1, (made bs u).2.2) := by simp only [stepP, h1, h2]
  have hsz := (repl_size (r := .num 0) t h2).2.2.2
  rw [e]
  refine ⟨fun b hb => ?_, M.lt⟩
  have ht1 := hd t (List.mem_cons_self ..)
  have ht2 := hl t (List.mem_cons_self ..)
  rcases (M.bx b hb).2.2 with h | ⟨h, h'⟩
  · exact ⟨hd b (List.mem_cons_of_mem _ h), hl b (List.mem_cons_of_mem _ h)⟩
  · omega
theorem tidyT_size {bs : List Tm} {t : Tm} : (tidyT bs t).len = t.len ∧ (tidyT bs t).dep = t.dep := ⟨renum_len _ _, renum_dep _ _⟩
instance {bs : List Tm} {t : Tm} : Decidable (Fit bs t) := by unfold Fit; infer_instance
def nextB (bs : List Tm) (t : Tm) : List Tm := tidyB (stepP bs t).1 (stepP bs t).2.1
def nextT (bs : List Tm) (t : Tm) : Tm := tidyT (stepP bs t).1 (stepP bs t).2.1
abbrev Res := Nat × List Tm × Tm × List Int
/-- k steps more, d done -/
def run : Nat → Nat → List Tm → Tm → List Int → Option Res
  | 0, d, bs, t, ns => some (d, bs, t, ns)
  | k + 1, d, bs, t, ns => if outcome t = "step" then (if Fit (nextB bs t) (nextT bs t) then run k (d + 1) (nextB bs t) (nextT bs t) (ns ++ (stepP bs t).2.2) else none) else some (d, bs, t, ns)
end FS
set_option maxHeartbeats 4000000
/-! The data layer for defs that may raise one own error without arguments. -/
namespace FS
open PySem PySem.Spec PyProof.Rows L2
section
variable {X : Cx} {C : Addr} {bmB : List Value} {B newId initId : String}
/-- X() -/
theorem pmk_own0 {x : Str} {p pos : Pos} (F : ExcBaseFacts B newId initId bmB) (q : PySem.W.excIn X.K C bmB newId = true) (gC : X.mg x = some (.ref C)) (kC : PySem.W.keepIn X.K (.ref C) = true) (r : Raises X (.ref C)) (hg : Gl X x)
    (hdb : (x == ("__debug__" : Str)) = false := by decide) : PMk X (.Call (.Name x p) [] [] pos) (fun _ H Q => Q (.ref C) none H) := by
  intro pins s σ H Q I h
  refine wpAny_Call_Name_kw (ld_glob I hg gC ?_ hdb)
  refine PySem.W.callWith_K0 I.kIn kC ?_
  show wpAny _ _ (call (.ref C) []) _ _ _
  obtain ⟨bm, N, nm, qn, bs, hdct, sn, sub, ab, col, dd, k0, k1, k2, k3, k5, mN, hC, hN, hni, T⟩ := exc_obj I.kIn q
  refine wpAny_call_exc_subT F T hC hN hni (fun h' e hm => ?_) (by show 0 ≤ sizeLine; exact Nat.zero_le _)
  exact mk_of I hm r h (I.hok.gone hm.new)
end
/-- what the top has written of the error's class -/
structure ExcT (K : PySem.W.Frag) (mg : Str → Option Value) (x : Str) (C : Addr) : Prop where
  g : mg x = some (.ref C)
  x' : PySem.W.excIn K C [.type "ValueError", .type "Exception", .type "BaseException", .type "object"] "ValueError.__new__" = true
  k : PySem.W.keepIn K (.ref C) = true
  b : PySem.W.subIn K (.ref C) (.type "BaseException") = some true
  t : PySem.W.typeIn K (.ref C) = some (.type "type")
  s : PySem.W.exmOne K (.ref C) (.ref C) = some true
/-- a promise over data, with a way out by the error -/
abbrev SpX := List Dv → Mm → (Dv → Mm → Prop) → (Mm → Prop) → Prop
def toSpX (K : PySem.W.Frag) (C : Addr) (S : SpX) : Sp := fun vs H R E => ∃ xs M Q B, DAts K H vs xs ∧ MAt K H M ∧ S xs M Q B ∧ (∀ v H' d M', ETx K H H' → MAt K H' M' → DAt K H' v d → Q d M' → R v H') ∧ ∀ H' M', ETx K H H' → MAt K H' M' → B M' → E (.ref C) none H'
/-- WS, from the heap H0 on -/
structure WSX (K : PySem.W.Frag) (H0 : Hp) (ts : TS) (ds : EnvD) (M : Mm) (D : DEnds) : Prop where
  run : ∀ σ H, ETx K H0 H → EnvAt K H σ ds → MAt K H M → ∀ R : Ends, Serves K H D R → ts R σ H
abbrev tRaiseC (C : Addr) (E : XK) : TS := fun _ σ H => (fun _ H (Q : XK) => Q (.ref C) none H) σ H fun cls d H' => (fun cls d _ H => E cls d H) cls d σ H'
section
variable {K : PySem.W.Frag} {H0 : Hp} {C : Addr} {E : XK} {ds : EnvD} {M : Mm} {D : DEnds} {Q : Dv → Mm → Prop} {te : TE} {tt : TT} {t : TA} {ts tu : TS} {g : TG} {S : SpX} {B : Mm → Prop} {j : Nat}
theorem wsx_of (h : WS K ts ds M D) : WSX K H0 ts ds M D := ⟨fun σ H _ hE hM R k => h.run σ H hE hM R k⟩
theorem wsx_seq (h : WSX K H0 ts ds M { D with nx := fun ds' M' => WSX K H0 tu ds' M' D }) : WSX K H0 (tSeq ts tu) ds M D := ⟨fun σ H e0 hE hM R k =>
  h.run σ H e0 hE hM _ ⟨fun σ' H' ds' M' e hE' hM' q => q.run σ' H' (e0.trans e) hE' hM' R (k.mono e), k.rt, k.bk, k.ct⟩⟩
theorem wsx_seqW (h : WS K ts ds M { D with nx := fun ds' M' => WSX K H0 tu ds' M' D }) : WSX K H0 (tSeq ts tu) ds M D := wsx_seq (wsx_of h)
theorem wsx_if (h : WT K tt ds M fun b M1 => (b = true → WSX K H0 ts ds M1 D) ∧ (b = false → WSX K H0 tu ds M1 D)) : WSX K H0 (tIfS tt ts tu) ds M D := ⟨fun σ H e0 hE hM R k =>
  h.run σ H hE hM _ fun b H1 M1 e1 m1 q1 => by
    cases b with
    | true => exact iteT ((q1.1 rfl).run σ H1 (e0.trans e1) (hE.mono e1) m1 R (k.mono e1))
    | false => exact iteF ((q1.2 rfl).run σ H1 (e0.trans e1) (hE.mono e1) m1 R (k.mono e1))⟩
theorem wsx_raise (hE : ∀ H' M', ETx K H0 H' → MAt K H' M' → B M' → E (.ref C) none H') (q : B M) : WSX K H0 (tRaiseC C E) ds M D := ⟨fun σ H e0 _ hM R k => hE H M e0 hM q⟩
theorem wsx_asg (hE : ∀ H' M', ETx K H0 H' → MAt K H' M' → B M' → E (.ref C) none H') (h : WA K t ds M fun xs M1 => S xs M1 (fun x M2 => WG K g x ds M2 D.nx) B) :
    WSX K H0 (tAsg (tCallS (toSpX K C S) (L2.WE fun cls d _ H => E cls d H) t) g) ds M D := ⟨fun σ H e0 hE' hM R k =>
  h.run σ H hE' hM _ fun vs H1 xs M1 e1 m1 a1 q1 => ⟨xs, M1, _, B, a1, m1, q1, fun v H' d M' e m a q => q.run v σ H' a (hE'.mono (e1.trans e)) m R.nx fun σ' H2 ds' M2 e2 hE2 m2 q2 => k.nx σ' H2 ds' M2 ((e1.trans e).trans e2) hE2 m2 q2,
    fun H' M' e m b => hE H' M' ((e0.trans e1).trans e) m b⟩⟩
theorem wsx_for {wi : TI} (h : WI K wi ds M fun J Kp M1 => ∃ xs, Yl K J Kp xs ∧ ∃ (S : Mm → Mm → Prop) (Pv : Nat → EnvD → Mm → Prop), Keeps K Kp S ∧ (∀ i ds' M', Pv i ds' M' → S M1 M') ∧ Pv 0 ds M1 ∧
    (∀ i x ds' M', xs[i]? = some x → Pv i ds' M' → WG K g x ds' M' fun ds2 M2 => WSX K H0 ts ds2 M2 { nx := Pv (i + 1), ct := Pv (i + 1), bk := D.nx, rt := D.rt }) ∧ (∀ ds' M', Pv xs.length ds' M' → D.nx ds' M')) : WSX K H0 (tFor wi g ts) ds M D := ⟨fun σ H e0 hE hM R k =>
  h.run σ H hE hM _ fun J H1 Kp M1 e1 m1 kp q1 => by
    obtain ⟨xs, Y, S, Pv, hk, hS, h0, hs, hd⟩ := q1
    refine ⟨fun i m σ' H' => m = xs.length - i ∧ i ≤ xs.length ∧ ∃ ds' M', ETx K H1 H' ∧ EnvAt K H' σ' ds' ∧ MAt K H' M' ∧ Pv i ds' M', ⟨xs.length, by simp, Nat.zero_le _, ds, M1, .refl, hE.mono e1, m1, h0⟩, ?_⟩
    rintro i m σ' H' ⟨rfl, hi, ds', M', e, hE', hM', p⟩
    have kp' : Kp H' M' := hk H1 H' M1 M' kp e (hS i ds' M' p)
    by_cases lt : i < xs.length
    · refine .inr ⟨Y.go i H' M' kp' hM' lt, fun σ2 H2 => ∃ ds2 M2, ETx K H1 H2 ∧ EnvAt K H2 σ2 ds2 ∧ MAt K H2 M2 ∧ Pv (i + 1) ds2 M2, fun σ2 H2 z => ⟨xs.length - (i + 1), by omega, rfl, lt, z⟩, fun v H2 y => ?_⟩
      obtain ⟨x, ex, gr, a⟩ := Y.yld i H' M' v H2 kp' hM' lt y
      have e2 : ETx K H' H2 := .of gr
      refine (hs i x ds' M' ex p).run v σ' H2 a (hE'.mono e2) (hM'.grow gr) _ fun σ3 H3 ds3 M3 e3 hE3 hM3 q3 => ?_
      have e13 : ETx K H1 H3 := (e.trans e2).trans e3
      exact q3.run σ3 H3 ((e0.trans e1).trans e13) hE3 hM3 _ ⟨fun σ4 H4 ds4 M4 e4 hE4 hM4 q4 => ⟨ds4, M4, e13.trans e4, hE4, hM4, q4⟩, fun v H4 d M4 e4 m4 a q => k.rt v H4 d M4 ((e1.trans e13).trans e4) m4 a q,
        fun σ4 H4 ds4 M4 e4 hE4 hM4 q4 => k.nx σ4 H4 ds4 M4 ((e1.trans e13).trans e4) hE4 hM4 q4, fun σ4 H4 ds4 M4 e4 hE4 hM4 q4 => ⟨ds4, M4, e13.trans e4, hE4, hM4, q4⟩⟩
    · have ei : i = xs.length := by omega
      subst ei
      exact .inl ⟨Y.stop H' M' kp' hM', k.nx σ' H' ds' M' (e1.trans e) hE' hM' (hd ds' M' p)⟩⟩
theorem wsx_forR (n : Nat) (Pv : Nat → EnvD → Mm → Prop) (h : WA K t ds M fun xs M1 => xs = [.int (n : Int)] ∧ n ≤ 1000000 ∧ Pv 0 ds M1)
    (hs : ∀ k ds' M', k < n → Pv k ds' M' → WSX K H0 ts (ds'.set j (some (.int (k : Int)))) M' { nx := Pv (k + 1), ct := Pv (k + 1), bk := D.nx, rt := D.rt })
    (hd : ∀ ds' M', Pv n ds' M' → D.nx ds' M') : WSX K H0 (tFor (iRng1 t) (gName j) ts) ds M D := by
  refine wsx_for (wi_rng ⟨fun σ H hE hM R k => h.run σ H hE hM R fun vs H' xs M' e m a q => k vs H' xs M' e m a ?_⟩)
  obtain ⟨rfl, hn, h0⟩ := q
  refine ⟨n, rfl, hn, _, yl_rng, fun _ _ => True, Pv, keeps_rng, fun _ _ _ _ => True.intro, h0, fun k x ds' M' hx' hp => wg_name ?_, fun ds' M' hp => hd ds' M' (by rw [List.length_map, List.length_range] at hp; exact hp)⟩
  rw [List.getElem?_map] at hx'
  by_cases hk : k < n
  · rw [List.getElem?_range hk] at hx'
    cases hx'
    exact hs k ds' M' hk hp
  · rw [List.getElem?_eq_none (by rw [List.length_range]; omega)] at hx'
    cases hx'
end
section
variable {P : Program} {w : World} {K : PySem.W.Frag} {mg : Str → Option Value} {base : Heap} {C : Addr}
/-- a def that may let the error out -/
structure CalX (P : Program) (w : World) (K : PySem.W.Frag) (mg : Str → Option Value) (base : Heap) (C : Addr) (k : Nat) (x : Str) (S : SpX) : Prop where
  ex : ∃ (f : Addr) (fd : FuncData) (ps : List Str), FnOk P w K mg base (L2.CX P w) k f fd ps (toSpX K C S) ∧ mg x = some (.ref f) ∧ PySem.W.keepIn K (.ref f) = true ∧ Binds K fd ps [] ∧ ∃ oc od osl, K.lookup f = some ⟨oc, od, .func fd, osl⟩
theorem CalX.mono {j k : Nat} {x : Str} {S : SpX} (c : CalX P w K mg base C j x S) (h : j ≤ k) : CalX P w K mg base C k x S := by
  obtain ⟨f, fd, ps, F, r⟩ := c.ex
  exact ⟨f, fd, ps, F.mono h, r⟩
/-- the same, its parameters said: for a call with keywords -/
structure CalXP (P : Program) (w : World) (K : PySem.W.Frag) (mg : Str → Option Value) (base : Heap) (C : Addr) (k : Nat) (x : Str) (ps : List Str) (S : SpX) : Prop where
  ex : ∃ (f : Addr) (fd : FuncData), FnOk P w K mg base (L2.CX P w) k f fd ps (toSpX K C S) ∧ mg x = some (.ref f) ∧ PySem.W.keepIn K (.ref f) = true ∧ Binds K fd ps [] ∧ ∃ oc od osl, K.lookup f = some ⟨oc, od, .func fd, osl⟩
theorem CalXP.cal {k : Nat} {x : Str} {ps : List Str} {S : SpX} (c : CalXP P w K mg base C k x ps S) : CalX P w K mg base C k x S := by
  obtain ⟨f, fd, r⟩ := c.ex
  exact ⟨f, fd, ps, r⟩
theorem cal_mkXP {x : Str} {st : Stmt} {N ps : List Str} {k : Nat} {S : SpX} (D : DefAt K mg x st [])
    (b : ∀ (kV doc pm : Value) (an : Option Addr) (cdv ct : Value) (us : List Value), us.length = ps.length → bindArgs (PySem.W.fnOf x x (defArgs st) (defBody st) (defScope st) .none kV doc pm an cdv ct) ⟨us, []⟩ = pure (ps.zip us))
    (sc : FnScope N ps (defScope st)) (len : ∀ xs M Q B, S xs M Q B → xs.length = ps.length)
    (body : ∀ (f : Addr) (cdv : Value) (A : Around) (outer : List Env) (s : Shared) (H : Hp) (E : XK), Room k (A.deeper (envOfC x (defScope st) s.heap.objs.size f cdv)) →
      ∃ t, PSs (cxOf (L2.CX P w) P w K mg base N x (defScope st) f cdv A outer s H E) (defBody st) t ∧ ∀ xs M Q B, S xs M Q B → (∀ H' M', ETx K H H' → MAt K H' M' → B M' → E (.ref C) none H') → WSX K H t (startD N xs) M (.fn Q)) : CalXP P w K mg base C (k + 1) x ps S := by
  obtain ⟨f, fd, F, hm⟩ := D.ex
  have hlk : ∃ oc od osl, K.lookup f = some ⟨oc, od, .func fd, osl⟩ := by
    obtain ⟨oc, od, dV, kV, doc, pm, an, cdv, ct, osl, _, lk, _⟩ := F.ex
    exact ⟨oc, od, osl, lk⟩
  refine ⟨f, fd, FunD.ok F sc (fun vs H Q E h => ?_) (fun cdv A outer s H vs R E hr h => ?_), hm, F.kp, F.bindsN b, hlk⟩
  · obtain ⟨xs, M, Q', B, h1, _, h2, _⟩ := h
    rw [h1.length]
    exact len _ _ _ _ h2
  · obtain ⟨t, ht, hb⟩ := body f cdv A outer s H E hr
    refine ⟨t, ht, ?_⟩
    obtain ⟨xs, M, Q', B, h1, h2, h3, h4, h5⟩ := h
    exact (hb xs M Q' B h3 h5).run (L2.start N vs) H .refl (env_start h1) h2 _ ⟨fun σ' H' ds' M' e _ m q => h4 _ H' _ M' e m .non q, fun v H' d M' e m a q => h4 v H' d M' e m a q, fun _ _ _ _ _ _ _ q => q.elim, fun _ _ _ _ _ _ _ q => q.elim⟩
theorem cal_mkX {x : Str} {st : Stmt} {N ps : List Str} {k : Nat} {S : SpX} (D : DefAt K mg x st [])
    (b : ∀ (kV doc pm : Value) (an : Option Addr) (cdv ct : Value) (us : List Value), us.length = ps.length → bindArgs (PySem.W.fnOf x x (defArgs st) (defBody st) (defScope st) .none kV doc pm an cdv ct) ⟨us, []⟩ = pure (ps.zip us))
    (sc : FnScope N ps (defScope st)) (len : ∀ xs M Q B, S xs M Q B → xs.length = ps.length)
    (body : ∀ (f : Addr) (cdv : Value) (A : Around) (outer : List Env) (s : Shared) (H : Hp) (E : XK), Room k (A.deeper (envOfC x (defScope st) s.heap.objs.size f cdv)) →
      ∃ t, PSs (cxOf (L2.CX P w) P w K mg base N x (defScope st) f cdv A outer s H E) (defBody st) t ∧ ∀ xs M Q B, S xs M Q B → (∀ H' M', ETx K H H' → MAt K H' M' → B M' → E (.ref C) none H') → WSX K H t (startD N xs) M (.fn Q)) : CalX P w K mg base C (k + 1) x S := (cal_mkXP D b sc len body).cal
/-- the same, and which def it is: for a call with keywords -/
theorem cal_kw {x : Str} {st : Stmt} {k : Nat} {ps : List Str} {S : SpX} (c : CalXP P w K mg base C k x ps S) (D : DefAt K mg x st []) : ∃ (f : Addr) (fd : FuncData), FnOk P w K mg base (L2.CX P w) k f fd ps (toSpX K C S) ∧ mg x = some (.ref f) ∧ PySem.W.keepIn K (.ref f) = true ∧ FnP K x st [] f fd := by
  obtain ⟨f, fd, F, hm, hk, b, oc, od, osl, lk⟩ := c.ex
  obtain ⟨f2, fd2, F2, hm2⟩ := D.ex
  rw [hm] at hm2
  cases hm2
  have e : fd2 = fd := by
    obtain ⟨oc2, od2, dV, kV, doc, pm, an, cdv, ct, osl2, _, lk2, _⟩ := F2.ex
    rw [lk] at lk2
    cases lk2
    rfl
  subst e
  exact ⟨f, fd2, F, hm, hk, F2⟩
theorem pe_calX {X : Cx} {k j : Nat} {x : Str} {S : SpX} {W : WX} {p pos : Pos} {e : Expr} {es : List Expr} {t : TA} (c : CalX P w K mg base C k x S) (hr : Room j X.A) (hk : k ≤ j) (hX : SameMod X P w K mg base) (hg : Gl X x) (tk : Takes X W) (ha : PA X (e :: es) t)
    (hdb : (x == ("__debug__" : Str)) = false := by decide) (he : starEach (e :: es) X.env = (false, eval e X.env) :: starEach es X.env := by rfl) (hpl : (backTo pos (starEach es X.env)).any (·.1) = false := by rfl) :
    PE X (.Call (.Name x p) (e :: es) [] pos) (tCallS (toSpX K C S) (L2.WE W) t) := by
  obtain ⟨rfl, rfl, rfl, rfl, rfl⟩ := hX
  obtain ⟨f, fd, ps, F, hm, kp, b, _⟩ := c.ex
  exact pe_callS F (hr.mono hk) hg hm kp b (fun σ => passAt tk σ) ha hdb he hpl
end
end FS
set_option maxHeartbeats 4000000
namespace FS
open PySem PySem.Spec PyProof.Rows L2
local macro_rules | `(tactic| walk_at "t") => `(tactic| exact use_hole (by assumption))
local macro_rules | `(tactic| walk_at "t") => `(tactic| exact use_at (by assumption))
local macro_rules | `(tactic| walk_at "t") => `(tactic| exact use_name (by assumption))
local macro_rules | `(tactic| walk_at "t") => `(tactic| exact use_num (by assumption))
local macro_rules | `(tactic| walk_at "t") => `(tactic| exact leaf_leaves (by assumption))
local macro_rules | `(tactic| walk_at "t") => `(tactic| exact use_leaves (by assumption))
local macro_rules | `(tactic| walk_at "t") => `(tactic| assumption)
local macro_rules | `(tactic| walk_at "t") => `(tactic| decide +kernel)
local macro_rules | `(tactic| walk_at "t") => `(tactic| rfl)
local macro_rules | `(tactic| walk_at "d1") => `(tactic| ((with_reducible refine rv_fdiv ?h1 ?_); (case h1 => exact ⟨by decide, by decide⟩)))
local macro_rules | `(tactic| walk_at "d1") => `(tactic| ((with_reducible refine rv_mod ?h1 ?_); (case h1 => (show (0 : Int) < _; decide))))
local macro_rules | `(tactic| walk_at "d1") => `(tactic| (with_reducible refine we_call (dxs := [.int 0]) (fun H => .cons (.int 0) .nil) ?_))
local macro_rules | `(tactic| walk_at "d1") => `(tactic| ((with_reducible refine' we_c ?h1 ?_); (case h1 => assumption)))
local macro_rules | `(tactic| walk_at "d1") => `(tactic| (with_reducible refine wt_yes ?_))
local macro_rules | `(tactic| walk_at "d1") => `(tactic| (with_reducible refine wg_name ?_))
local macro_rules | `(tactic| walk_at "d1") => `(tactic| (with_reducible refine rv_ix3 ?_))
local macro_rules | `(tactic| walk_at "d1") => `(tactic| (with_reducible refine rv_ix2 ?_))
local macro_rules | `(tactic| walk_at "d1") => `(tactic| (with_reducible refine rv_notN ?_))
local macro_rules | `(tactic| walk_at "d1") => `(tactic| (with_reducible refine rv_isN ?_))
local macro_rules | `(tactic| walk_at "d1") => `(tactic| (with_reducible refine rv_neS ?_))
local macro_rules | `(tactic| walk_at "d1") => `(tactic| (with_reducible refine rv_ge ?_))
local macro_rules | `(tactic| walk_at "d1") => `(tactic| (with_reducible refine rv_gt ?_))
local macro_rules | `(tactic| walk_at "d1") => `(tactic| (with_reducible refine rv_le ?_))
local macro_rules | `(tactic| walk_at "d1") => `(tactic| (with_reducible refine rv_sub ?_))
local macro_rules | `(tactic| walk_at "d1") => `(tactic| (with_reducible refine wo_some ?_))
local macro_rules | `(tactic| walk_at "d1") => `(tactic| (with_reducible refine wo_none ?_))
local macro_rules | `(tactic| walk_at "d1") => `(tactic| (with_reducible refine we_then ?_))
local macro_rules | `(tactic| walk_at "d1") => `(tactic| (with_reducible refine we_un ?_))
local macro_rules | `(tactic| walk_at "d1") => `(tactic| (with_reducible refine we_chain ?_))
local macro_rules | `(tactic| walk_at "d1") => `(tactic| (with_reducible refine we_if ?_))
local macro_rules | `(tactic| walk_at "d1") => `(tactic| (with_reducible refine we_not ?_))
local macro_rules | `(tactic| walk_at "d1") => `(tactic| (with_reducible refine we_or ?_))
local macro_rules | `(tactic| walk_at "d1") => `(tactic| (with_reducible refine we_and ?_))
local macro_rules | `(tactic| walk_at "d1") => `(tactic| (with_reducible refine wt_not ?_))
local macro_rules | `(tactic| walk_at "d1") => `(tactic| (with_reducible refine wt_B ?_))
local macro_rules | `(tactic| walk_at "d1") => `(tactic| (with_reducible refine we_slT ?_))
local macro_rules | `(tactic| walk_at "d1") => `(tactic| (with_reducible refine we_lst ?_))
local macro_rules | `(tactic| walk_at "d1") => `(tactic| (with_reducible refine we_ty ?_))
local macro_rules | `(tactic| walk_at "d1") => `(tactic| (with_reducible refine we_non ?_))
local macro_rules | `(tactic| walk_at "d1") => `(tactic| (with_reducible refine we_bl ?_))
local macro_rules | `(tactic| walk_at "d1") => `(tactic| (with_reducible refine ws_asg ?_))
local macro_rules | `(tactic| walk_at "d1") => `(tactic| (with_reducible refine ws_par3 ?_))
local macro_rules | `(tactic| walk_at "d1") => `(tactic| (with_reducible refine ws_par ?_))
local macro_rules | `(tactic| walk_at "d1") => `(tactic| (with_reducible refine ws_drop ?_))
local macro_rules | `(tactic| walk_at "d1") => `(tactic| (with_reducible refine ru_neg ?_))
local macro_rules | `(tactic| walk_at "d1") => `(tactic| (with_reducible refine rl_isi_bb ?_))
local macro_rules | `(tactic| walk_at "d1") => `(tactic| (with_reducible refine rl_isi_bt ?_))
local macro_rules | `(tactic| walk_at "d1") => `(tactic| (with_reducible refine rl_isi_sb ?_))
local macro_rules | `(tactic| walk_at "d1") => `(tactic| (with_reducible refine rl_isi_st ?_))
local macro_rules | `(tactic| walk_at "d1") => `(tactic| (with_reducible refine rl_isi_is ?_))
local macro_rules | `(tactic| walk_at "d1") => `(tactic| (with_reducible refine rl_isi_it ?_))
local macro_rules | `(tactic| walk_at "d1") => `(tactic| (with_reducible refine rl_isi_ib ?_))
local macro_rules | `(tactic| walk_at "d1") => `(tactic| (with_reducible refine rl_isi_ii ?_))
local macro_rules | `(tactic| walk_at "d1") => `(tactic| (with_reducible refine rl_isi_ss ?_))
local macro_rules | `(tactic| walk_at "d1") => `(tactic| (with_reducible refine rl_isi_tt ?_))
local macro_rules | `(tactic| walk_at "d1") => `(tactic| (with_reducible refine rl_abs ?_))
local macro_rules | `(tactic| walk_at "d1") => `(tactic| (with_reducible refine rl_int ?_))
local macro_rules | `(tactic| walk_at "d1") => `(tactic| (with_reducible refine wt_or ?_))
local macro_rules | `(tactic| walk_at "d1") => `(tactic| (with_reducible refine rv_lt ?_))
local macro_rules | `(tactic| walk_at "d1") => `(tactic| (with_reducible refine rv_add ?_))
local macro_rules | `(tactic| walk_at "d1") => `(tactic| (with_reducible refine we_cb ?_))
local macro_rules | `(tactic| walk_at "d1") => `(tactic| (with_reducible refine ws_set ?_))
local macro_rules | `(tactic| walk_at "d1") => `(tactic| (with_reducible refine rv_ix1 ?_))
local macro_rules | `(tactic| walk_at "d1") => `(tactic| (with_reducible refine wt_and ?_))
local macro_rules | `(tactic| walk_at "d1") => `(tactic| (with_reducible refine we_call0 ?_))
local macro_rules | `(tactic| walk_at "d1") => `(tactic| ((with_reducible refine br_t ?h1 ?_); (case h1 => walk_at "t")))
local macro_rules | `(tactic| walk_at "d1") => `(tactic| ((with_reducible refine rv_inT ?a1 ?a2 ?_); (case a1 => rfl); (case a2 => first | rfl | decide +kernel)))
local macro_rules | `(tactic| walk_at "d1") => `(tactic| ((with_reducible refine len_and ?h1 ?_); (case h1 => first | decide | (simp; done) | (simp; omega))))
local macro_rules | `(tactic| walk_at "d1") => `(tactic| ((with_reducible refine br_f ?h1 ?_); (case h1 => walk_at "t")))
local macro_rules | `(tactic| walk_at "d1") => `(tactic| (with_reducible refine ⟨_, rfl, ?_⟩))
local macro_rules | `(tactic| walk_at "d1") => `(tactic| (with_reducible refine ws_ret ?_))
local macro_rules | `(tactic| walk_at "d1") => `(tactic| (with_reducible refine rv_eqS ?_))
local macro_rules | `(tactic| walk_at "d1") => `(tactic| (with_reducible refine we_tup ?_))
local macro_rules | `(tactic| walk_at "d1") => `(tactic| (with_reducible refine rv_ix0 ?_))
local macro_rules | `(tactic| walk_at "d1") => `(tactic| (with_reducible refine ws_next ?_))
local macro_rules | `(tactic| walk_at "d1") => `(tactic| (with_reducible refine ws_if ?_))
local macro_rules | `(tactic| walk_at "d1") => `(tactic| (with_reducible refine wt_test ?_))
local macro_rules | `(tactic| walk_at "d1") => `(tactic| (with_reducible refine ws_seq ?_))
local macro_rules | `(tactic| walk_at "d1") => `(tactic| (with_reducible refine wa_nil ?_))
local macro_rules | `(tactic| walk_at "d1") => `(tactic| (with_reducible refine we_int ?_))
local macro_rules | `(tactic| walk_at "d1") => `(tactic| (with_reducible refine we_str ?_))
local macro_rules | `(tactic| walk_at "d1") => `(tactic| (with_reducible refine we_op ?_))
local macro_rules | `(tactic| walk_at "d1") => `(tactic| ((with_reducible refine' we_var ?h1 ?_); (case h1 => exact rfl)))
local macro_rules | `(tactic| walk_at "d1") => `(tactic| (with_reducible refine wa_cons ?_))
local macro_rules | `(tactic| walk_at "d") => `(tactic| repeat (walk_at "d1"))
theorem sc_is_sourced : FnScope ["words", "value", "many", "length", "term", "number"] ["words", "value"] (defScope s_is_sourced) := ⟨rfl, rfl, rfl, by decide +kernel, rfl, by decide +kernel, by decide +kernel⟩
theorem sc_is_programmed : FnScope ["value", "held"] ["value"] (defScope s_is_programmed) := ⟨rfl, rfl, rfl, by decide +kernel, rfl, by decide +kernel, by decide +kernel⟩
theorem sc_are_fitting : FnScope ["words", "boxes", "term", "length", "held"] ["words", "boxes", "term"] (defScope s_are_fitting) := ⟨rfl, rfl, rfl, by decide +kernel, rfl, by decide +kernel, by decide +kernel⟩
theorem sc_check_program : FnScope ["program"] ["program"] (defScope s_check_program) := ⟨rfl, rfl, rfl, by decide +kernel, rfl, by decide +kernel, by decide +kernel⟩
theorem sc_check_number : FnScope ["number", "least", "most"] ["number", "least", "most"] (defScope s_check_number) := ⟨rfl, rfl, rfl, by decide +kernel, rfl, by decide +kernel, by decide +kernel⟩
def S_src : SpD := fun xs M Q => ∃ (bs : List Tm) (t : Tm), xs = [.core, encP bs t] ∧ Wf bs t ∧ Fit bs t ∧ bs.length < 1500 ∧ ∀ M', MEx M M' → Q (.bl true) M'
def S_prog : SpD := fun xs M Q => ∃ (bs : List Tm) (t : Tm), xs = [encP bs t] ∧ Wf bs t ∧ Fit bs t ∧ bs.length < 1500 ∧ ∀ M', MEx M M' → Q (.bl true) M'
def S_chk : SpD := fun xs M Q => ∃ (bs : List Tm) (t : Tm), xs = [encP bs t] ∧ Wf bs t ∧ Fit bs t ∧ bs.length < 1500 ∧ ∀ M', MEx M M' → Q .non M'
def S_chkn : SpD := fun xs M Q => ∃ (i a b : Int), xs = [.int i, .int a, .int b] ∧ a ≤ i ∧ i ≤ b ∧ ∀ M', MEx M M' → Q .non M'
section
variable {P : Program} {w : World} {K : PySem.W.Frag} {mg : Str → Option Value} {base : Heap}
theorem cal_is_sourced (G : Glb K mg) {L n m : Nat} (hn : 60 ≤ n) (hm : 1500 ≤ m) (c_is_closed_term : Cal P w K mg base L "is_closed_term" (S_closed n) []) (c_length_by : Cal P w K mg base L "length_by" (S_len n) []) (c_ats_by : Cal P w K mg base L "ats_by" (S_atsby n m) []) : Cal P w K mg base (L + 1) "is_sourced" S_src [] := by
  refine cal_mk (ps := ["words", "value"]) G.d_is_sourced (fun _ _ _ _ _ _ us hl => match us, hl with | [_, _], _ => rfl) sc_is_sourced (fun xs M Q h => by obtain ⟨t, m, rfl, _⟩ := h; rfl) fun f cdv A outer s H E hr => ⟨_, (pss_cons (ps_if (PW.pt (pw_or (pt_not (pt_val (pe_callB (call_isiK' (K := K) rfl) (by rfl) G.b_isinstance (by decide +kernel) (pa_cons (pv 1) (pa_cons (pe_bltn (v := .ty "tuple") (u := .type "tuple") (by rfl) G.b_tuple (by decide +kernel) rfl) pa_nil))))) (pw_or (pt_cmpR op_ne (pe_callB (call_lenK (K := K) rfl) (by rfl) G.b_len PySem.boot_len (pa_cons (pv 1) pa_nil)) pe_int (nomark _)) (pw_or1 (pt_not (pt_val (pe_callB (call_isiK' (K := K) rfl) (by rfl) G.b_isinstance (by decide +kernel) (pa_cons (pe_ix (ix_tupK (K := K) rfl) (pv 1) pe_int (fun _ _ => rfl)) (pa_cons (pe_bltn (v := .ty "tuple") (u := .type "tuple") (by rfl) G.b_tuple (by decide +kernel) rfl) pa_nil)))))))))
        (pss_one (ps_ret pe_bl))
        pss_nil)
      (pss_cons (ps_set (i := 2) sc_is_sourced.nd rfl (.inr rfl) (pe_callB (call_lenK (K := K) rfl) (by rfl) G.b_len PySem.boot_len (pa_cons (pe_ix (ix_tupK (K := K) rfl) (pv 1) pe_int (fun _ _ => rfl)) pa_nil)))
      (pss_cons (ps_if (pt_cmpR op_ge (pv 2) (pe_k rfl G.k_MOST_LENGTH rfl) (nomark _))
        (pss_one (ps_ret pe_bl))
        pss_nil)
      (pss_cons (ps_set (i := 3) sc_is_sourced.nd rfl (.inl rfl) pe_int)
      (pss_cons (ps_for PassesOwn.never rfl (pi_tupK (K := K) rfl (pe_op (op_catK (K := K) rfl) (pe_ix (ix_tupK (K := K) rfl) (pv 1) pe_int (fun _ _ => rfl)) (pe_tup (pa_cons (pe_ix (ix_tupK (K := K) rfl) (pv 1) pe_int (fun _ _ => rfl)) pa_nil)))) (pg_name (i := 4) sc_is_sourced.nd rfl (.inl rfl))
        (pss_cons (ps_if (pt_not (pt_val (pe_cal c_is_closed_term hr (by omega) ⟨rfl, rfl, rfl, rfl, rfl⟩ rfl (pa_cons (pv 0) (pa_cons (pv 4) pa_nil)))))
          (pss_one (ps_ret pe_bl))
          pss_nil)
        (pss_cons (ps_aug (i := 3) sc_is_sourced.nd rfl (.inl rfl) (pe_cal c_length_by hr (by omega) ⟨rfl, rfl, rfl, rfl, rfl⟩ rfl (pa_cons (pv 0) (pa_cons (pv 4) pa_nil))) ip_add)
        (pss_one (ps_if (PW.pt (pw_or (pt_cmpR op_gt (pv 3) (pe_k rfl G.k_MOST_LENGTH rfl) (nomark _)) (pw_or1 (pt_val (pe_callB (cr_anyK (K := K) rfl rfl) (by rfl) G.b_any (by decide +kernel) (pa_cons (pe_lc (own := [("number", 5)]) (by rfl) sc_is_sourced.nd (pi_tupK (K := K) rfl (pe_cal c_ats_by hr (by omega) ⟨rfl, rfl, rfl, rfl, rfl⟩ rfl (pa_cons (pv 4) pa_nil))) (blkOk_by (N := ["words", "value", "many", "length", "term", "number"]) (sc := defScope s_is_sourced) (by decide +kernel)) (fun _ _ _ _ _ => (pg_name (i := 5) sc_is_sourced.nd rfl (.inl rfl))) (fun _ _ _ _ _ => pts_nil) (fun _ _ _ _ _ => (pe_cmpR op_ge (pv 5) (pv 2) (nomark _)))) pa_nil))))))
          (pss_one (ps_ret pe_bl))
          pss_nil)))))
      (pss_one (ps_ret pe_bl))))))), fun xs M Q h => ?_⟩
  obtain ⟨bs, t, rfl, hw, hf, hb, q⟩ := h
  unfold encP
  walk_at "d"
  refine rl_lenT ?_
  walk_at "d"
  refine rv_neI ?_
  walk_at "d"
  refine rl_lenT ?_
  walk_at "d"
  rw [List.length_map]
  refine br_f (decide_eq_false (by omega)) ?_
  walk_at "d"
  have hlenle : ∀ n, (((bs ++ [t]).take n).map Tm.len).sum ≤ lenP bs t := fun n => by
    have e : (((bs ++ [t]).take n).map Tm.len).sum + (((bs ++ [t]).drop n).map Tm.len).sum = lenP bs t := by
      rw [← List.sum_append, ← List.map_append, List.take_append_drop]
      simp [lenP]
    omega
  have hmem : ∀ u ∈ bs ++ [t], u.wf bs.length 0 = true ∧ u.dep ≤ 60 ∧ u.len ≤ 1500 := fun u hu => by
    rcases List.mem_append.mp hu with h | h
    · refine ⟨(hw.bx u h).1, hf.2 u (List.mem_cons_of_mem _ h), ?_⟩
      have h1 := mem_sum_le (List.mem_map.mpr ⟨u, h, rfl⟩ : u.len ∈ bs.map Tm.len)
      have h2 := hf.1
      unfold lenP at h2
      omega
    · have e := List.mem_singleton.mp h
      subst e
      have h2 := hf.1
      unfold lenP at h2
      exact ⟨hw.tm, hf.2 u (List.mem_cons_self ..), by omega⟩
  refine ws_forU (bs ++ [t]) Tm.enc (fun n ds' M' => MEx M M' ∧ ∃ a b, ds' = [some .core, some (.tup [.tup (bs.map Tm.enc), t.enc]), some (.int (bs.length : Int)), some (.int ((((bs ++ [t]).take n).map Tm.len).sum : Nat)), a, b]) ?_ ?_ ?_
  · walk_at "d"
    refine rv_catT (by simp; omega) ?_
    exact ⟨by simp, .refl, none, none, rfl⟩
  · rintro k u ds' M' hk ⟨mx, a, b, rfl⟩
    obtain ⟨hwu, hdu, hlu⟩ := hmem u (List.mem_of_getElem? hk)
    have hsum : ((((bs ++ [t]).take k).map Tm.len).sum : Nat) + u.len = (((bs ++ [t]).take (k + 1)).map Tm.len).sum := by
      rw [List.take_add_one, hk]
      simp
    walk_at "d"
    refine ⟨u, bs.length, rfl, hwu, hlu, hdu, by omega, fun M2 h2 => ?_⟩
    walk_at "d"
    refine ws_aug rfl ?_
    walk_at "d"
    refine ⟨u, rfl, by omega, fun M3 h3 => ?_⟩
    walk_at "d"
    have e1 : ((((((bs ++ [t]).take k).map Tm.len).sum : Nat) : Int) + (u.len : Int)) = ((((bs ++ [t]).take (k + 1)).map Tm.len).sum : Nat) := by omega
    rw [e1]
    have hle := hlenle (k + 1)
    have hf1 := hf.1
    refine br_f (decide_eq_false (by omega)) ?_
    walk_at "d"
    refine we_lcU (u.atsF []) (fun n => .int ((n : Nat) : Int)) (fun _ => .bl false) rfl ?_ (by have := atsF_len u []; simp at this; omega) ?_ ?_
    · walk_at "d"
      exact ⟨u, rfl, by omega, by omega, fun M4 h4 => ⟨by simp [atsT], h4⟩⟩
    · intro j hj M4 h4
      walk_at "d"
      have hlt := wf_has u hwu ((atsF_has u).mp hj |>.elim (fun h => by cases h) id)
      exact ⟨.refl, by rw [decide_eq_false (by omega)]⟩
    · intro r M4 h4 hr
      walk_at "d"
      refine rl_any (bs := (u.atsF []).map fun _ => false) (by rw [hr, List.map_map]; rfl) ?_
      walk_at "d"
      refine br_f (by rw [List.any_eq_false]; intro x hx; obtain ⟨_, _, rfl⟩ := List.mem_map.mp hx; exact Bool.false_ne_true) ?_
      walk_at "d"
      exact ⟨((mx.trans h2).trans h3).trans h4, _, _, rfl⟩
  · rintro ds' M' ⟨mx, a, b, rfl⟩
    walk_at "d"
    exact q M' mx
theorem cal_is_programmed (G : Glb K mg) {L n : Nat} (hL : 1 ≤ L) (hn : 60 ≤ n) (c_words_of : Cal P w K mg base 1 "words_of" S_words []) (c_is_sourced : Cal P w K mg base L "is_sourced" S_src []) (c_is_value_by : Cal P w K mg base L "is_value_by" (S_isval n) []) : Cal P w K mg base (L + 1) "is_programmed" S_prog [] := by
  refine cal_mk (ps := ["value"]) G.d_is_programmed (fun _ _ _ _ _ _ us hl => match us, hl with | [_], _ => rfl) sc_is_programmed (fun xs M Q h => by obtain ⟨t, m, rfl, _⟩ := h; rfl) fun f cdv A outer s H E hr => ⟨_, (pss_one (ps_ret (pe_and (pe_cal c_is_sourced hr (by omega) ⟨rfl, rfl, rfl, rfl, rfl⟩ rfl (pa_cons (pe_cal c_words_of hr (by omega) ⟨rfl, rfl, rfl, rfl, rfl⟩ rfl (pa_cons (pe_tup pa_nil) pa_nil)) (pa_cons (pv 0) pa_nil))) (pe_one (pe_callB (cr_allK (K := K) rfl rfl) (by rfl) G.b_all (by decide +kernel) (pa_cons (pe_lc (own := [("held", 1)]) (by rfl) sc_is_programmed.nd (pi_tupK (K := K) rfl (pe_ix (ix_tupK (K := K) rfl) (pv 0) pe_int (fun _ _ => rfl))) (blkOk_by (N := ["value", "held"]) (sc := defScope s_is_programmed) (by decide +kernel)) (fun _ _ _ _ _ => (pg_name (i := 1) sc_is_programmed.nd rfl (.inl rfl))) (fun _ _ _ _ _ => pts_nil) (fun _ _ _ _ _ => (pe_cal c_is_value_by hr (by omega) ⟨rfl, rfl, rfl, rfl, rfl⟩ rfl (pa_cons (pv 1) pa_nil)))) pa_nil)))))), fun xs M Q h => ?_⟩
  obtain ⟨bs, t, rfl, hw, hf, hb, q⟩ := h
  unfold encP
  walk_at "d"
  refine ⟨rfl, fun M2 h2 => ?_⟩
  walk_at "d"
  refine ⟨bs, t, rfl, hw, hf, hb, fun M3 h3 => ?_⟩
  walk_at "d"
  refine we_lcU bs Tm.enc (fun _ => .bl true) rfl ?_ (by omega) ?_ ?_
  · walk_at "d"
    exact ⟨rfl, .refl⟩
  · intro b hbm M4 h4
    walk_at "d"
    refine ⟨b, rfl, Nat.le_trans (hf.2 b (List.mem_cons_of_mem _ hbm)) hn, fun M5 h5 => ⟨h5, by rw [(hw.bx b hbm).2]⟩⟩
  · intro r M4 h4 hr
    walk_at "d"
    refine rl_all (bs := bs.map fun _ => true) (by rw [hr, List.map_map]; rfl) ?_
    have e : (bs.map fun _ => true).all id = true := by
      rw [List.all_eq_true]
      intro x hx
      obtain ⟨_, _, rfl⟩ := List.mem_map.mp hx
      rfl
    rw [e]
    exact q M4 ((h2.trans h3).trans h4)
theorem cal_check_program (G : Glb K mg) {L : Nat} (c_is_programmed : Cal P w K mg base L "is_programmed" S_prog []) : Cal P w K mg base (L + 1) "check_program" S_chk [] := by
  refine cal_mk (ps := ["program"]) G.d_check_program (fun _ _ _ _ _ _ us hl => match us, hl with | [_], _ => rfl) sc_check_program (fun xs M Q h => by obtain ⟨t, m, rfl, _⟩ := h; rfl) fun f cdv A outer s H E hr => ⟨_, (pss_one (ps_if (pt_not (pt_val (pe_cal c_is_programmed hr (by omega) ⟨rfl, rfl, rfl, rfl, rfl⟩ rfl (pa_cons (pv 0) pa_nil))))
        (pss_one (ps_never))
        pss_nil)), fun xs M Q h => ?_⟩
  obtain ⟨bs, t, rfl, hw, hf, hb, q⟩ := h
  walk_at "d"
  refine ⟨bs, t, rfl, hw, hf, hb, fun M3 h3 => ?_⟩
  walk_at "d"
  exact q M3 h3
theorem cal_check_number (G : Glb K mg) (c_is_whole : Cal P w K mg base 1 "is_whole" S_whole []) : Cal P w K mg base 2 "check_number" S_chkn [] := by
  refine cal_mk (ps := ["number", "least", "most"]) G.d_check_number (fun _ _ _ _ _ _ us hl => match us, hl with | [_, _, _], _ => rfl) sc_check_number (fun xs M Q h => by obtain ⟨i, a, b, rfl, _⟩ := h; rfl) fun f cdv A outer s H E hr => ⟨_, (pss_one (ps_if (PW.pt (pw_or (pt_not (pt_val (pe_cal c_is_whole hr (by omega) ⟨rfl, rfl, rfl, rfl, rfl⟩ rfl (pa_cons (pv 0) pa_nil)))) (pw_or1 (pt_not (pt_chain op_le op_le (pv 1) (pv 0) (pv 2))))))
        (pss_one (ps_never))
        pss_nil)), fun xs M Q h => ?_⟩
  obtain ⟨i, a, b, rfl, h1, h2, q⟩ := h
  walk_at "d"
  refine ⟨i, rfl, fun M3 h3 => ?_⟩
  walk_at "d"
  refine br_t (decide_eq_true h1) ?_
  walk_at "d"
  refine br_f (by rw [decide_eq_true h2]; rfl) ?_
  walk_at "d"
  exact q M3 h3
def S_fit (n : Nat) : SpD := fun xs M Q => ∃ (bs : List Tm) (t : Tm), xs = [.core, .tup (bs.map Tm.enc), t.enc] ∧ (∀ b ∈ t :: bs, b.dep ≤ n) ∧ ∀ M' b, MEx M M' → (b = true ↔ Fit bs t) → Q (.bl b) M'
theorem cal_are_fitting (G : Glb K mg) {L n : Nat} (c_length_by : Cal P w K mg base L "length_by" (S_len n) []) (c_depth_by : Cal P w K mg base L "depth_by" (S_dep n) []) : Cal P w K mg base (L + 1) "are_fitting" (S_fit n) [] := by
  refine cal_mk (ps := ["words", "boxes", "term"]) G.d_are_fitting (fun _ _ _ _ _ _ us hl => match us, hl with | [_, _, _], _ => rfl) sc_are_fitting (fun xs M Q h => by obtain ⟨t, m, rfl, _⟩ := h; rfl) fun f cdv A outer s H E hr => ⟨_, (pss_cons (ps_set (i := 3) sc_are_fitting.nd rfl (.inl rfl) (pe_cal c_length_by hr (by omega) ⟨rfl, rfl, rfl, rfl, rfl⟩ rfl (pa_cons (pv 0) (pa_cons (pv 2) pa_nil))))
      (pss_cons (ps_if (PW.pt (pw_or (pt_cmpR op_gt (pv 3) (pe_k rfl G.k_MOST_LENGTH rfl) (nomark _)) (pw_or1 (pt_cmpR op_gt (pe_cal c_depth_by hr (by omega) ⟨rfl, rfl, rfl, rfl, rfl⟩ rfl (pa_cons (pv 2) pa_nil)) (pe_k rfl G.k_MOST_DEPTH rfl) (nomark _)))))
        (pss_one (ps_ret pe_bl))
        pss_nil)
      (pss_cons (ps_for PassesOwn.never rfl (pi_tupK (K := K) rfl (pv 1)) (pg_name (i := 4) sc_are_fitting.nd rfl (.inl rfl))
        (pss_cons (ps_aug (i := 3) sc_are_fitting.nd rfl (.inl rfl) (pe_cal c_length_by hr (by omega) ⟨rfl, rfl, rfl, rfl, rfl⟩ rfl (pa_cons (pv 0) (pa_cons (pv 4) pa_nil))) ip_add)
        (pss_one (ps_if (PW.pt (pw_or (pt_cmpR op_gt (pv 3) (pe_k rfl G.k_MOST_LENGTH rfl) (nomark _)) (pw_or1 (pt_cmpR op_gt (pe_cal c_depth_by hr (by omega) ⟨rfl, rfl, rfl, rfl, rfl⟩ rfl (pa_cons (pv 4) pa_nil)) (pe_k rfl G.k_MOST_DEPTH rfl) (nomark _)))))
          (pss_one (ps_ret pe_bl))
          pss_nil))))
      (pss_one (ps_ret pe_bl))))), fun xs M Q h => ?_⟩
  obtain ⟨bs, t, rfl, hd, q⟩ := h
  have no : ∀ {M'}, MEx M M' → ¬ Fit bs t → Q (.bl false) M' := fun h1 h2 => q _ false h1 ⟨fun e => (by cases e), fun e => (h2 e).elim⟩
  walk_at "d"
  refine ⟨t, rfl, hd t (List.mem_cons_self ..), fun M2 h2 => ?_⟩
  walk_at "d"
  refine ⟨fun e => ?_, fun e => ?_⟩
  · refine ⟨fun _ => ?_, fun e => by cases e⟩
    walk_at "d"
    have e1 := of_decide_eq_true e
    exact no h2 fun hf => by
      have := hf.1
      unfold lenP at this
      omega
  have l1 := of_decide_eq_false e
  walk_at "d"
  refine ⟨t, rfl, hd t (List.mem_cons_self ..), fun M3 h3 => ?_⟩
  walk_at "d"
  refine ⟨fun e => ?_, fun e => ?_⟩
  · walk_at "d"
    have e1 := of_decide_eq_true e
    exact no (h2.trans h3) fun hf => by
      have := hf.2 t (List.mem_cons_self ..)
      omega
  have d1 := of_decide_eq_false e
  walk_at "d"
  refine ws_forU bs Tm.enc (fun n ds' M' => MEx M M' ∧ (∀ b ∈ bs.take n, b.dep ≤ 60) ∧ t.len + ((bs.take n).map Tm.len).sum ≤ 1500 ∧ ∃ a, ds' = [some .core, some (.tup (bs.map Tm.enc)), some t.enc, some (.int (t.len + ((bs.take n).map Tm.len).sum : Nat)), a]) ?_ ?_ ?_
  · walk_at "d"
    exact ⟨rfl, h2.trans h3, by simp, by simp; omega, none, rfl⟩
  · rintro k u ds' M' hk ⟨mx, hdk, hlk, a, rfl⟩
    have hmem := List.mem_of_getElem? hk
    have hsum : ((bs.take k).map Tm.len).sum + u.len = ((bs.take (k + 1)).map Tm.len).sum := by
      rw [List.take_add_one, hk]
      simp
    have htot : ((bs.take (k + 1)).map Tm.len).sum ≤ (bs.map Tm.len).sum := by
      have e : ((bs.take (k + 1)).map Tm.len).sum + ((bs.drop (k + 1)).map Tm.len).sum = (bs.map Tm.len).sum := by
        rw [← List.sum_append, ← List.map_append, List.take_append_drop]
      omega
    walk_at "d"
    refine ws_aug rfl ?_
    walk_at "d"
    refine ⟨u, rfl, hd u (List.mem_cons_of_mem _ hmem), fun M4 h4 => ?_⟩
    walk_at "d"
    have e1 : (((t.len + ((bs.take k).map Tm.len).sum : Nat) : Int) + (u.len : Int)) = ((t.len + ((bs.take (k + 1)).map Tm.len).sum : Nat) : Int) := by omega
    rw [e1]
    refine ⟨fun e => ?_, fun e => ?_⟩
    · refine ⟨fun _ => ?_, fun e => by cases e⟩
      walk_at "d"
      have e1 := of_decide_eq_true e
      exact no (mx.trans h4) fun hf => by
        have := hf.1
        unfold lenP at this
        omega
    have l2 := of_decide_eq_false e
    walk_at "d"
    refine ⟨u, rfl, hd u (List.mem_cons_of_mem _ hmem), fun M5 h5 => ?_⟩
    walk_at "d"
    refine ⟨fun e => ?_, fun e => ?_⟩
    · walk_at "d"
      have e1 := of_decide_eq_true e
      exact no ((mx.trans h4).trans h5) fun hf => by
        have := hf.2 u (List.mem_cons_of_mem _ hmem)
        omega
    have d2 := of_decide_eq_false e
    walk_at "d"
    refine ⟨(mx.trans h4).trans h5, fun b hb => ?_, by omega, _, rfl⟩
    rw [List.take_add_one, hk] at hb
    rcases List.mem_append.mp hb with hb | hb
    · exact hdk b hb
    · have e := List.mem_singleton.mp hb
      subst e
      omega
  · rintro ds' M' ⟨mx, hdk, hlk, a, rfl⟩
    walk_at "d"
    rw [List.take_length] at hdk hlk
    refine q M' true mx ⟨fun _ => ⟨by unfold lenP; omega, fun b hb => ?_⟩, fun _ => rfl⟩
    rcases List.mem_cons.mp hb with rfl | hb
    · omega
    · exact hdk b hb
end
end FS
set_option maxHeartbeats 4000000
namespace FS
open PySem PySem.Spec PyProof.Rows L2
local macro_rules | `(tactic| walk_at "t") => `(tactic| exact use_hole (by assumption))
local macro_rules | `(tactic| walk_at "t") => `(tactic| exact use_at (by assumption))
local macro_rules | `(tactic| walk_at "t") => `(tactic| exact use_name (by assumption))
local macro_rules | `(tactic| walk_at "t") => `(tactic| exact use_num (by assumption))
local macro_rules | `(tactic| walk_at "t") => `(tactic| exact leaf_leaves (by assumption))
local macro_rules | `(tactic| walk_at "t") => `(tactic| exact use_leaves (by assumption))
local macro_rules | `(tactic| walk_at "t") => `(tactic| assumption)
local macro_rules | `(tactic| walk_at "t") => `(tactic| decide +kernel)
local macro_rules | `(tactic| walk_at "t") => `(tactic| rfl)
local macro_rules | `(tactic| walk_at "d1") => `(tactic| ((with_reducible refine rv_fdiv ?h1 ?_); (case h1 => exact ⟨by decide, by decide⟩)))
local macro_rules | `(tactic| walk_at "d1") => `(tactic| ((with_reducible refine rv_mod ?h1 ?_); (case h1 => (show (0 : Int) < _; decide))))
local macro_rules | `(tactic| walk_at "d1") => `(tactic| (with_reducible refine we_call (dxs := [.int 0]) (fun H => .cons (.int 0) .nil) ?_))
local macro_rules | `(tactic| walk_at "d1") => `(tactic| ((with_reducible refine' we_c ?h1 ?_); (case h1 => assumption)))
local macro_rules | `(tactic| walk_at "d1") => `(tactic| (with_reducible refine wt_yes ?_))
local macro_rules | `(tactic| walk_at "d1") => `(tactic| (with_reducible refine wg_name ?_))
local macro_rules | `(tactic| walk_at "d1") => `(tactic| (with_reducible refine rv_ix3 ?_))
local macro_rules | `(tactic| walk_at "d1") => `(tactic| (with_reducible refine rv_ix2 ?_))
local macro_rules | `(tactic| walk_at "d1") => `(tactic| (with_reducible refine rv_notN ?_))
local macro_rules | `(tactic| walk_at "d1") => `(tactic| (with_reducible refine rv_isN ?_))
local macro_rules | `(tactic| walk_at "d1") => `(tactic| (with_reducible refine rv_neS ?_))
local macro_rules | `(tactic| walk_at "d1") => `(tactic| (with_reducible refine rv_ge ?_))
local macro_rules | `(tactic| walk_at "d1") => `(tactic| (with_reducible refine rv_gt ?_))
local macro_rules | `(tactic| walk_at "d1") => `(tactic| (with_reducible refine rv_le ?_))
local macro_rules | `(tactic| walk_at "d1") => `(tactic| (with_reducible refine rv_sub ?_))
local macro_rules | `(tactic| walk_at "d1") => `(tactic| (with_reducible refine wo_some ?_))
local macro_rules | `(tactic| walk_at "d1") => `(tactic| (with_reducible refine wo_none ?_))
local macro_rules | `(tactic| walk_at "d1") => `(tactic| (with_reducible refine we_then ?_))
local macro_rules | `(tactic| walk_at "d1") => `(tactic| (with_reducible refine we_un ?_))
local macro_rules | `(tactic| walk_at "d1") => `(tactic| (with_reducible refine we_chain ?_))
local macro_rules | `(tactic| walk_at "d1") => `(tactic| (with_reducible refine we_if ?_))
local macro_rules | `(tactic| walk_at "d1") => `(tactic| (with_reducible refine we_not ?_))
local macro_rules | `(tactic| walk_at "d1") => `(tactic| (with_reducible refine we_or ?_))
local macro_rules | `(tactic| walk_at "d1") => `(tactic| (with_reducible refine we_and ?_))
local macro_rules | `(tactic| walk_at "d1") => `(tactic| (with_reducible refine wt_not ?_))
local macro_rules | `(tactic| walk_at "d1") => `(tactic| (with_reducible refine wt_B ?_))
local macro_rules | `(tactic| walk_at "d1") => `(tactic| (with_reducible refine we_slT ?_))
local macro_rules | `(tactic| walk_at "d1") => `(tactic| (with_reducible refine we_lst ?_))
local macro_rules | `(tactic| walk_at "d1") => `(tactic| (with_reducible refine we_ty ?_))
local macro_rules | `(tactic| walk_at "d1") => `(tactic| (with_reducible refine we_non ?_))
local macro_rules | `(tactic| walk_at "d1") => `(tactic| (with_reducible refine we_bl ?_))
local macro_rules | `(tactic| walk_at "d1") => `(tactic| (with_reducible refine ws_asg ?_))
local macro_rules | `(tactic| walk_at "d1") => `(tactic| (with_reducible refine ws_par3 ?_))
local macro_rules | `(tactic| walk_at "d1") => `(tactic| (with_reducible refine ws_par ?_))
local macro_rules | `(tactic| walk_at "d1") => `(tactic| (with_reducible refine ws_drop ?_))
local macro_rules | `(tactic| walk_at "d1") => `(tactic| (with_reducible refine ru_neg ?_))
local macro_rules | `(tactic| walk_at "d1") => `(tactic| (with_reducible refine rl_isi_bb ?_))
local macro_rules | `(tactic| walk_at "d1") => `(tactic| (with_reducible refine rl_isi_bt ?_))
local macro_rules | `(tactic| walk_at "d1") => `(tactic| (with_reducible refine rl_isi_sb ?_))
local macro_rules | `(tactic| walk_at "d1") => `(tactic| (with_reducible refine rl_isi_st ?_))
local macro_rules | `(tactic| walk_at "d1") => `(tactic| (with_reducible refine rl_isi_is ?_))
local macro_rules | `(tactic| walk_at "d1") => `(tactic| (with_reducible refine rl_isi_it ?_))
local macro_rules | `(tactic| walk_at "d1") => `(tactic| (with_reducible refine rl_isi_ib ?_))
local macro_rules | `(tactic| walk_at "d1") => `(tactic| (with_reducible refine rl_isi_ii ?_))
local macro_rules | `(tactic| walk_at "d1") => `(tactic| (with_reducible refine rl_isi_ss ?_))
local macro_rules | `(tactic| walk_at "d1") => `(tactic| (with_reducible refine rl_isi_tt ?_))
local macro_rules | `(tactic| walk_at "d1") => `(tactic| (with_reducible refine rl_abs ?_))
local macro_rules | `(tactic| walk_at "d1") => `(tactic| (with_reducible refine rl_int ?_))
local macro_rules | `(tactic| walk_at "d1") => `(tactic| (with_reducible refine wt_or ?_))
local macro_rules | `(tactic| walk_at "d1") => `(tactic| (with_reducible refine rv_lt ?_))
local macro_rules | `(tactic| walk_at "d1") => `(tactic| (with_reducible refine rv_add ?_))
local macro_rules | `(tactic| walk_at "d1") => `(tactic| (with_reducible refine we_cb ?_))
local macro_rules | `(tactic| walk_at "d1") => `(tactic| (with_reducible refine ws_set ?_))
local macro_rules | `(tactic| walk_at "d1") => `(tactic| (with_reducible refine rv_ix1 ?_))
local macro_rules | `(tactic| walk_at "d1") => `(tactic| (with_reducible refine wt_and ?_))
local macro_rules | `(tactic| walk_at "d1") => `(tactic| (with_reducible refine we_call0 ?_))
local macro_rules | `(tactic| walk_at "d1") => `(tactic| ((with_reducible refine br_t ?h1 ?_); (case h1 => walk_at "t")))
local macro_rules | `(tactic| walk_at "d1") => `(tactic| ((with_reducible refine rv_inT ?a1 ?a2 ?_); (case a1 => rfl); (case a2 => first | rfl | decide +kernel)))
local macro_rules | `(tactic| walk_at "d1") => `(tactic| ((with_reducible refine len_and ?h1 ?_); (case h1 => first | decide | (simp; done) | (simp; omega))))
local macro_rules | `(tactic| walk_at "d1") => `(tactic| ((with_reducible refine br_f ?h1 ?_); (case h1 => walk_at "t")))
local macro_rules | `(tactic| walk_at "d1") => `(tactic| (with_reducible refine ⟨_, rfl, ?_⟩))
local macro_rules | `(tactic| walk_at "d1") => `(tactic| (with_reducible refine ws_ret ?_))
local macro_rules | `(tactic| walk_at "d1") => `(tactic| (with_reducible refine rv_eqS ?_))
local macro_rules | `(tactic| walk_at "d1") => `(tactic| (with_reducible refine we_tup ?_))
local macro_rules | `(tactic| walk_at "d1") => `(tactic| (with_reducible refine rv_ix0 ?_))
local macro_rules | `(tactic| walk_at "d1") => `(tactic| (with_reducible refine ws_next ?_))
local macro_rules | `(tactic| walk_at "d1") => `(tactic| (with_reducible refine ws_if ?_))
local macro_rules | `(tactic| walk_at "d1") => `(tactic| (with_reducible refine wt_test ?_))
local macro_rules | `(tactic| walk_at "d1") => `(tactic| (with_reducible refine ws_seq ?_))
local macro_rules | `(tactic| walk_at "d1") => `(tactic| (with_reducible refine wa_nil ?_))
local macro_rules | `(tactic| walk_at "d1") => `(tactic| (with_reducible refine we_int ?_))
local macro_rules | `(tactic| walk_at "d1") => `(tactic| (with_reducible refine we_str ?_))
local macro_rules | `(tactic| walk_at "d1") => `(tactic| (with_reducible refine we_op ?_))
local macro_rules | `(tactic| walk_at "d1") => `(tactic| ((with_reducible refine' we_var ?h1 ?_); (case h1 => exact rfl)))
local macro_rules | `(tactic| walk_at "d1") => `(tactic| (with_reducible refine wa_cons ?_))
local macro_rules | `(tactic| walk_at "d") => `(tactic| repeat (walk_at "d1"))
theorem sc_met_by : FnScope ["boxes", "term", "found", "at", "number"] ["boxes", "term"] (defScope s_met_by) := ⟨rfl, rfl, rfl, by decide +kernel, rfl, by decide +kernel, by decide +kernel⟩
theorem sc_tidied_by : FnScope ["boxes", "term", "order", "numbers", "held", "index", "number"] ["boxes", "term"] (defScope s_tidied_by) := ⟨rfl, rfl, rfl, by decide +kernel, rfl, by decide +kernel, by decide +kernel⟩
/-- what the walks ask of a program: numbers and depths in bounds -/
structure Bd (n l : Nat) (bs : List Tm) (t : Tm) : Prop where
  dep : ∀ b ∈ t :: bs, b.dep ≤ n
  len : ∀ b ∈ t :: bs, b.len ≤ l
def S_met (n l : Nat) : SpD := fun xs M Q => ∃ (bs : List Tm) (t : Tm), xs = [.tup (bs.map Tm.enc), t.enc] ∧ Wf bs t ∧ Bd n l bs t ∧ bs.length ≤ 100000 ∧ ∀ M', MEx M M' → Q (atsT (met bs t)) M'
def S_tidy (n l : Nat) : SpD := fun xs M Q => ∃ (bs : List Tm) (t : Tm), xs = [.tup (bs.map Tm.enc), t.enc] ∧ Wf bs t ∧ Bd n l bs t ∧ bs.length ≤ 100000 ∧ ∀ M', MEx M M' → Q (encP (tidyB bs t) (tidyT bs t)) M'
def natD (k : Nat) : Dv := .int (k : Int)
theorem atsT_nat (ks : List Nat) : atsT ks = .tup (ks.map natD) := by unfold atsT; rw [List.map_map]; rfl
theorem flat_nats (ks : List Nat) : (ks.map natD).all flatD = true := by
  rw [List.all_eq_true]
  intro x hx
  obtain ⟨k, _, rfl⟩ := List.mem_map.mp hx
  rfl
theorem inD_nats (ks : List Nat) (k : Nat) : inD (natD k) (ks.map natD) = decide (k ∈ ks) := by
  induction ks with
  | nil => rfl
  | cons j ks ih =>
    have e : inD (natD k) ((j :: ks).map natD) = (decide ((j : Int) = (k : Int)) || inD (natD k) (ks.map natD)) := rfl
    rw [e, ih, Bool.eq_iff_iff]
    simp only [Bool.or_eq_true, decide_eq_true_iff, List.mem_cons]
    constructor
    · rintro (h | h)
      · exact .inl (by omega)
      · exact .inr h
    · rintro (h | h)
      · exact .inl (by omega)
      · exact .inr h
section
variable {P : Program} {w : World} {K : PySem.W.Frag} {mg : Str → Option Value} {base : Heap}
theorem cal_met_by (G : Glb K mg) {L n l : Nat} (c_ats_by : Cal P w K mg base L "ats_by" (S_atsby n l) []) : Cal P w K mg base (L + 1) "met_by" (S_met n l) [] := by
  refine cal_mk (ps := ["boxes", "term"]) G.d_met_by (fun _ _ _ _ _ _ us hl => match us, hl with | [_, _], _ => rfl) sc_met_by (fun xs M Q h => by obtain ⟨t, m, rfl, _⟩ := h; rfl) fun f cdv A outer s H E hr => ⟨_, (pss_cons (ps_set (i := 2) sc_met_by.nd rfl (.inr rfl) (pe_callTy (call_listK (K := K) rfl) (by rfl) G.b_list (by decide +kernel) (pa_cons (pe_cal c_ats_by hr (by omega) ⟨rfl, rfl, rfl, rfl, rfl⟩ rfl (pa_cons (pv 1) pa_nil)) pa_nil)))
      (pss_cons (ps_set (i := 3) sc_met_by.nd rfl (.inl rfl) pe_int)
      (pss_cons (ps_while PassesOwn.never (pt_cmpR op_lt (pv 3) (pe_callB (call_lenK (K := K) rfl) (by rfl) G.b_len PySem.boot_len (pa_cons (pv 2) pa_nil)) (nomark _))
        (pss_cons (ps_expr (pe_bmK (K := K) rfl PySem.F.plainAttrs_list PySem.F.slot_list_extend PySem.F.type_list_extend mt_extend (pv 2) (pa_cons (pe_lc (own := [("number", 4)]) (by rfl) sc_met_by.nd (pi_tupK (K := K) rfl (pe_cal c_ats_by hr (by omega) ⟨rfl, rfl, rfl, rfl, rfl⟩ rfl (pa_cons (pe_ix (ix_tupK (K := K) rfl) (pv 0) (pe_ix (ix_listK (K := K) rfl) (pv 2) (pv 3) (fun _ _ => rfl)) (fun _ _ => rfl)) pa_nil))) (blkOk_by (N := ["boxes", "term", "found", "at", "number"]) (sc := defScope s_met_by) (by decide +kernel)) (fun _ _ _ _ _ => (pg_name (i := 4) sc_met_by.nd rfl (.inl rfl))) (fun _ _ _ _ _ => (pts_one (pt_cmpR (op_niK (K := K) rfl) (pv 4) (pv 2) (by rfl)))) (fun _ _ _ _ _ => (pv 4))) pa_nil)))
        (pss_one (ps_aug (i := 3) sc_met_by.nd rfl (.inl rfl) pe_int ip_add))))
      (pss_one (ps_ret (pe_tupleK (K := K) rfl rfl G.b_tuple (pv 2))))))), fun xs M Q h => ?_⟩
  obtain ⟨bs, t, rfl, hw, hb, hs, q⟩ := h
  walk_at "d"
  refine ⟨t, rfl, hb.len t (List.mem_cons_self ..), hb.dep t (List.mem_cons_self ..), fun M2 h2 => ?_⟩
  walk_at "d"
  rw [atsT_nat]
  refine rl_listT fun p np => ?_
  walk_at "d"
  have np0 : M p = none := by
    cases e : M p with
    | none => rfl
    | some o =>
      rw [h2 p o e] at np
      cases np
  refine ws_while (fun mm ds' M' => ∃ (i : Nat) (a : Option Dv), ds' = [some (.tup (bs.map Tm.enc)), some t.enc, some (.adr p), some (natD i), a] ∧ M' p = some (.lst ((metN bs t i).map natD)) ∧ MEx M M' ∧ i ≤ bs.length ∧ mm = bs.length - i)
    ⟨_, 0, none, rfl, mupd_same, h2.putNew np0, Nat.zero_le _, rfl⟩ ?_
  rintro mm ds' M' ⟨i, a, rfl, hp, mx, hi, rfl⟩
  have hlen := metN_len hw i
  unfold natD
  walk_at "d"
  refine rl_lenL hp ?_
  walk_at "d"
  rw [List.length_map]
  by_cases hlt : i < (metN bs t i).length
  · refine br_t (decide_eq_true (by omega)) ?_
    have ek : (metN bs t i)[i]? = some (metN bs t i)[i] := List.getElem?_eq_getElem hlt
    have hk := (metN_ok hw i).2 _ (List.getElem_mem hlt)
    obtain ⟨eb, hbm⟩ := bx_mem hk
    walk_at "d"
    refine we_extend (we_var rfl ⟨p, rfl, ⟨_, hp⟩, ?_⟩)
    refine we_lcUF ((bx bs (metN bs t i)[i]).atsF []) natD natD (fun x => !decide (x ∈ metN bs t i)) rfl ?_ ?_ ?_ ?_
    · walk_at "d"
      refine rv_ixL hp (atI_nat (j := i) (by rw [List.getElem?_map, ek]; rfl)) ?_
      unfold natD
      refine rv_ixT (atI_nat (by rw [List.getElem?_map, eb]; rfl)) ?_
      walk_at "d"
      exact ⟨_, rfl, hb.len _ (List.mem_cons_of_mem _ hbm), hb.dep _ (List.mem_cons_of_mem _ hbm), fun M3 h3 => ⟨atsT_nat _, h3⟩⟩
    · have h1 := nodup_le bs.length _ (atsF_nodup (bx bs (metN bs t i)[i]) List.nodup_nil) fun k hk => wf_has _ (hw.bx _ hbm).1 ((atsF_has _).mp hk |>.elim (fun h => by cases h) id)
      omega
    · intro x hx M3 h3
      walk_at "d"
      refine rv_niL (h3 _ _ hp) rfl (flat_nats _) ?_
      rw [inD_nats]
      walk_at "d"
      exact ⟨.refl, rfl, fun _ => by
        walk_at "d"
        exact ⟨.refl, rfl⟩⟩
    · intro r M3 nr h3 hr
      have e : stepM bs (metN bs t i) i = metN bs t i ++ ((bx bs (metN bs t i)[i]).atsF []).filter fun x => !decide (x ∈ metN bs t i) := by
        unfold stepM
        rw [ek]
        exact atsF_ext _ _
      have hlen2 := metN_len hw (i + 1)
      rw [metN_succ, e] at hlen2
      refine ⟨r, _, _, rfl, h3 _ _ hp, hr, ?_, ?_⟩
      · rw [List.length_append] at hlen2
        rw [List.length_map, List.length_map]
        omega
      · walk_at "d"
        refine ws_aug rfl ?_
        walk_at "d"
        refine ⟨bs.length - (i + 1), by omega, i + 1, a, ?_, ?_, (mx.trans h3).putNew np0, by omega, rfl⟩
        · have e2 : ((i : Int) + 1) = ((i + 1 : Nat) : Int) := by omega
          rw [← e2]
          rfl
        · rw [mupd_same, metN_succ, e, List.map_append]
          rfl
  · refine br_f (decide_eq_false (by omega)) ?_
    walk_at "d"
    refine ru_tupL hp ?_
    have e : met bs t = metN bs t i := metN_stop (by omega) _ hi
    rw [← atsT_nat, ← e]
    exact q M' mx
theorem cal_tidied_by (G : Glb K mg) {L n l : Nat} (c_met_by : Cal P w K mg base L "met_by" (S_met n l) []) (c_ats_led_by : Cal P w K mg base L "ats_led_by" (S_atsled n) []) : Cal P w K mg base (L + 1) "tidied_by" (S_tidy n l) [] := by
  refine cal_mk (ps := ["boxes", "term"]) G.d_tidied_by (fun _ _ _ _ _ _ us hl => match us, hl with | [_, _], _ => rfl) sc_tidied_by (fun xs M Q h => by obtain ⟨t, m, rfl, _⟩ := h; rfl) fun f cdv A outer s H E hr => ⟨_, (pss_cons (ps_set (i := 2) sc_tidied_by.nd rfl (.inl rfl) (pe_cal c_met_by hr (by omega) ⟨rfl, rfl, rfl, rfl, rfl⟩ rfl (pa_cons (pv 0) (pa_cons (pv 1) pa_nil))))
      (pss_cons (ps_set (i := 3) sc_tidied_by.nd rfl (.inr rfl) (pe_dc (own := [("index", 5), ("number", 6)]) (by rfl) sc_tidied_by.nd (pi_enumK (K := K) rfl rfl G.b_enumerate (pa_cons (pv 2) pa_nil)) (blkOk_by (N := ["boxes", "term", "order", "numbers", "held", "index", "number"]) (sc := defScope s_tidied_by) (by decide +kernel)) (fun _ _ _ _ _ => (pg_tupK (K := K) (n := 2) rfl rfl (pgs_cons (pg_name (i := 5) sc_tidied_by.nd rfl (.inl rfl)) (pgs_cons (pg_name (i := 6) sc_tidied_by.nd rfl (.inl rfl)) pgs_nil)) (by rfl) (by rfl))) (fun _ _ _ _ _ => pts_nil) (fun _ _ _ _ _ => (pv 6)) (fun _ _ _ _ _ => (pv 5))))
      (pss_cons (ps_set (i := 4) sc_tidied_by.nd rfl (.inl rfl) (pe_tupleK (K := K) rfl rfl G.b_tuple (pe_lc (own := [("number", 6)]) (by rfl) sc_tidied_by.nd (pi_tupK (K := K) rfl (pv 2)) (blkOk_by (N := ["boxes", "term", "order", "numbers", "held", "index", "number"]) (sc := defScope s_tidied_by) (by decide +kernel)) (fun _ _ _ _ _ => (pg_name (i := 6) sc_tidied_by.nd rfl (.inl rfl))) (fun _ _ _ _ _ => pts_nil) (fun _ _ _ _ _ => (pe_cal c_ats_led_by hr (by omega) ⟨rfl, rfl, rfl, rfl, rfl⟩ rfl (pa_cons (pe_ix (ix_tupK (K := K) rfl) (pv 0) (pv 6) (fun _ _ => rfl)) (pa_cons (pv 3) pa_nil)))))))
      (pss_one (ps_ret (pe_tup (pa_cons (pv 4) (pa_cons (pe_cal c_ats_led_by hr (by omega) ⟨rfl, rfl, rfl, rfl, rfl⟩ rfl (pa_cons (pv 1) (pa_cons (pv 3) pa_nil))) pa_nil)))))))), fun xs M Q h => ?_⟩
  obtain ⟨bs, t, rfl, hw, hb, hs, q⟩ := h
  have hlen : (met bs t).length ≤ bs.length := metN_len hw _
  walk_at "d"
  refine ⟨bs, t, rfl, hw, hb, hs, fun M2 h2 => ?_⟩
  walk_at "d"
  rw [atsT_nat]
  refine we_dc (α := Nat × Nat) (wi_enum ?_)
  walk_at "d"
  refine fun a => ⟨(met bs t).zipIdx, fun p => .tup [.int (p.2 : Int), natD p.1], fun p => (p.1 : Int), fun p => .int (p.2 : Int), ?_, ?_, ?_, ?_, ?_⟩
  · have e : enumD ((met bs t).map natD) = (met bs t).zipIdx.map fun p => .tup [.int (p.2 : Int), natD p.1] := by
      unfold enumD
      rw [List.zipIdx_map, List.map_map]
      rfl
    rw [← e]
    exact yl_enum
  · exact keeps_tup
  · rw [List.length_zipIdx]
    omega
  · intro p hp M3 h3
    refine ⟨_, wgc_pair (by decide) (by decide), ?_⟩
    walk_at "d"
    exact ⟨.refl, rfl, by
      walk_at "d"
      exact ⟨.refl, rfl⟩⟩
  · intro r M3 nr h3 hr
    have hval : ∀ k ∈ met bs t, valD (numsD (met bs t)) (.inl (k : Int)) = some (.int ((met bs t).idxOf k : Int)) := fun k hk => numsD_val (met_nodup hw) hk
    walk_at "d"
    refine we_lcU (met bs t) natD (fun k => ((bx bs k).renum (met bs t)).enc) rfl ?_ (by omega) ?_ ?_
    · walk_at "d"
      exact ⟨rfl, .refl⟩
    · intro k hk M4 h4
      have hlt := met_lt hw hk
      obtain ⟨eb, hbm⟩ := bx_mem hlt
      unfold natD
      walk_at "d"
      refine rv_ixT (atI_nat (by rw [List.getElem?_map, eb]; rfl)) ?_
      walk_at "d"
      exact ⟨bx bs k, r, _, met bs t, rfl, h4 _ _ hr, fun j hj => hval j (met_closed hw hk hj), hb.dep _ (List.mem_cons_of_mem _ hbm), fun M5 h5 => ⟨h5, rfl⟩⟩
    · intro v M4 h4 hv
      walk_at "d"
      refine ru_tupL hv ?_
      walk_at "d"
      refine ⟨t, r, _, met bs t, rfl, h4 _ _ hr, fun j hj => hval j (met_has hj), hb.dep _ (List.mem_cons_self ..), fun M5 h5 => ?_⟩
      walk_at "d"
      have q' := q M5 (((h2.trans h3).trans h4).trans h5)
      unfold encP tidyB tidyT at q'
      rw [List.map_map] at q'
      exact q'
end
end FS
set_option maxHeartbeats 4000000
namespace FS
open PySem PySem.Spec PyProof.Rows L2
local macro_rules | `(tactic| walk_at "t") => `(tactic| exact use_hole (by assumption))
local macro_rules | `(tactic| walk_at "t") => `(tactic| exact use_at (by assumption))
local macro_rules | `(tactic| walk_at "t") => `(tactic| exact use_name (by assumption))
local macro_rules | `(tactic| walk_at "t") => `(tactic| exact use_num (by assumption))
local macro_rules | `(tactic| walk_at "t") => `(tactic| exact leaf_leaves (by assumption))
local macro_rules | `(tactic| walk_at "t") => `(tactic| exact use_leaves (by assumption))
local macro_rules | `(tactic| walk_at "t") => `(tactic| assumption)
local macro_rules | `(tactic| walk_at "t") => `(tactic| decide +kernel)
local macro_rules | `(tactic| walk_at "t") => `(tactic| rfl)
local macro_rules | `(tactic| walk_at "d1") => `(tactic| (with_reducible refine ⟨_, _, _, rfl, ?_⟩))
local macro_rules | `(tactic| walk_at "d1") => `(tactic| (with_reducible refine ⟨_, _, rfl, ?_⟩))
local macro_rules | `(tactic| walk_at "d1") => `(tactic| ((with_reducible refine rv_fdiv ?h1 ?_); (case h1 => exact ⟨by decide, by decide⟩)))
local macro_rules | `(tactic| walk_at "d1") => `(tactic| ((with_reducible refine rv_mod ?h1 ?_); (case h1 => (show (0 : Int) < _; decide))))
local macro_rules | `(tactic| walk_at "d1") => `(tactic| (with_reducible refine we_call (dxs := [.int 0]) (fun H => .cons (.int 0) .nil) ?_))
local macro_rules | `(tactic| walk_at "d1") => `(tactic| ((with_reducible refine' we_c ?h1 ?_); (case h1 => assumption)))
local macro_rules | `(tactic| walk_at "d1") => `(tactic| (with_reducible refine wt_yes ?_))
local macro_rules | `(tactic| walk_at "d1") => `(tactic| (with_reducible refine wg_name ?_))
local macro_rules | `(tactic| walk_at "d1") => `(tactic| (with_reducible refine rv_ix3 ?_))
local macro_rules | `(tactic| walk_at "d1") => `(tactic| (with_reducible refine rv_ix2 ?_))
local macro_rules | `(tactic| walk_at "d1") => `(tactic| (with_reducible refine rv_notN ?_))
local macro_rules | `(tactic| walk_at "d1") => `(tactic| (with_reducible refine rv_isN ?_))
local macro_rules | `(tactic| walk_at "d1") => `(tactic| (with_reducible refine rv_neS ?_))
local macro_rules | `(tactic| walk_at "d1") => `(tactic| (with_reducible refine rv_ge ?_))
local macro_rules | `(tactic| walk_at "d1") => `(tactic| (with_reducible refine rv_gt ?_))
local macro_rules | `(tactic| walk_at "d1") => `(tactic| (with_reducible refine rv_le ?_))
local macro_rules | `(tactic| walk_at "d1") => `(tactic| (with_reducible refine rv_sub ?_))
local macro_rules | `(tactic| walk_at "d1") => `(tactic| (with_reducible refine wo_some ?_))
local macro_rules | `(tactic| walk_at "d1") => `(tactic| (with_reducible refine wo_none ?_))
local macro_rules | `(tactic| walk_at "d1") => `(tactic| (with_reducible refine we_then ?_))
local macro_rules | `(tactic| walk_at "d1") => `(tactic| (with_reducible refine we_un ?_))
local macro_rules | `(tactic| walk_at "d1") => `(tactic| (with_reducible refine we_chain ?_))
local macro_rules | `(tactic| walk_at "d1") => `(tactic| (with_reducible refine we_if ?_))
local macro_rules | `(tactic| walk_at "d1") => `(tactic| (with_reducible refine we_not ?_))
local macro_rules | `(tactic| walk_at "d1") => `(tactic| (with_reducible refine we_or ?_))
local macro_rules | `(tactic| walk_at "d1") => `(tactic| (with_reducible refine we_and ?_))
local macro_rules | `(tactic| walk_at "d1") => `(tactic| (with_reducible refine wt_not ?_))
local macro_rules | `(tactic| walk_at "d1") => `(tactic| (with_reducible refine wt_B ?_))
local macro_rules | `(tactic| walk_at "d1") => `(tactic| (with_reducible refine we_slT ?_))
local macro_rules | `(tactic| walk_at "d1") => `(tactic| (with_reducible refine we_lst ?_))
local macro_rules | `(tactic| walk_at "d1") => `(tactic| (with_reducible refine we_ty ?_))
local macro_rules | `(tactic| walk_at "d1") => `(tactic| (with_reducible refine we_non ?_))
local macro_rules | `(tactic| walk_at "d1") => `(tactic| (with_reducible refine we_bl ?_))
local macro_rules | `(tactic| walk_at "d1") => `(tactic| (with_reducible refine ws_asg ?_))
local macro_rules | `(tactic| walk_at "d1") => `(tactic| (with_reducible refine ws_par3 ?_))
local macro_rules | `(tactic| walk_at "d1") => `(tactic| (with_reducible refine ws_par ?_))
local macro_rules | `(tactic| walk_at "d1") => `(tactic| (with_reducible refine ws_drop ?_))
local macro_rules | `(tactic| walk_at "d1") => `(tactic| (with_reducible refine ru_neg ?_))
local macro_rules | `(tactic| walk_at "d1") => `(tactic| (with_reducible refine rl_isi_bb ?_))
local macro_rules | `(tactic| walk_at "d1") => `(tactic| (with_reducible refine rl_isi_bt ?_))
local macro_rules | `(tactic| walk_at "d1") => `(tactic| (with_reducible refine rl_isi_sb ?_))
local macro_rules | `(tactic| walk_at "d1") => `(tactic| (with_reducible refine rl_isi_st ?_))
local macro_rules | `(tactic| walk_at "d1") => `(tactic| (with_reducible refine rl_isi_is ?_))
local macro_rules | `(tactic| walk_at "d1") => `(tactic| (with_reducible refine rl_isi_it ?_))
local macro_rules | `(tactic| walk_at "d1") => `(tactic| (with_reducible refine rl_isi_ib ?_))
local macro_rules | `(tactic| walk_at "d1") => `(tactic| (with_reducible refine rl_isi_ii ?_))
local macro_rules | `(tactic| walk_at "d1") => `(tactic| (with_reducible refine rl_isi_ss ?_))
local macro_rules | `(tactic| walk_at "d1") => `(tactic| (with_reducible refine rl_isi_tt ?_))
local macro_rules | `(tactic| walk_at "d1") => `(tactic| (with_reducible refine rl_abs ?_))
local macro_rules | `(tactic| walk_at "d1") => `(tactic| (with_reducible refine rl_int ?_))
local macro_rules | `(tactic| walk_at "d1") => `(tactic| (with_reducible refine wt_or ?_))
local macro_rules | `(tactic| walk_at "d1") => `(tactic| (with_reducible refine rv_lt ?_))
local macro_rules | `(tactic| walk_at "d1") => `(tactic| (with_reducible refine rv_add ?_))
local macro_rules | `(tactic| walk_at "d1") => `(tactic| (with_reducible refine we_cb ?_))
local macro_rules | `(tactic| walk_at "d1") => `(tactic| (with_reducible refine ws_set ?_))
local macro_rules | `(tactic| walk_at "d1") => `(tactic| (with_reducible refine rv_ix1 ?_))
local macro_rules | `(tactic| walk_at "d1") => `(tactic| (with_reducible refine wt_and ?_))
local macro_rules | `(tactic| walk_at "d1") => `(tactic| (with_reducible refine we_call0 ?_))
local macro_rules | `(tactic| walk_at "d1") => `(tactic| ((with_reducible refine br_t ?h1 ?_); (case h1 => walk_at "t")))
local macro_rules | `(tactic| walk_at "d1") => `(tactic| ((with_reducible refine rv_inT ?a1 ?a2 ?_); (case a1 => rfl); (case a2 => first | rfl | decide +kernel)))
local macro_rules | `(tactic| walk_at "d1") => `(tactic| ((with_reducible refine len_and ?h1 ?_); (case h1 => first | decide | (simp; done) | (simp; omega))))
local macro_rules | `(tactic| walk_at "d1") => `(tactic| ((with_reducible refine br_f ?h1 ?_); (case h1 => walk_at "t")))
local macro_rules | `(tactic| walk_at "d1") => `(tactic| (with_reducible refine ⟨_, rfl, ?_⟩))
local macro_rules | `(tactic| walk_at "d1") => `(tactic| (with_reducible refine ws_ret ?_))
local macro_rules | `(tactic| walk_at "d1") => `(tactic| (with_reducible refine rv_eqS ?_))
local macro_rules | `(tactic| walk_at "d1") => `(tactic| (with_reducible refine we_tup ?_))
local macro_rules | `(tactic| walk_at "d1") => `(tactic| (with_reducible refine rv_ix0 ?_))
local macro_rules | `(tactic| walk_at "d1") => `(tactic| (with_reducible refine ws_next ?_))
local macro_rules | `(tactic| walk_at "d1") => `(tactic| (with_reducible refine ws_if ?_))
local macro_rules | `(tactic| walk_at "d1") => `(tactic| (with_reducible refine wt_test ?_))
local macro_rules | `(tactic| walk_at "d1") => `(tactic| (with_reducible refine ws_seq ?_))
local macro_rules | `(tactic| walk_at "d1") => `(tactic| (with_reducible refine wa_nil ?_))
local macro_rules | `(tactic| walk_at "d1") => `(tactic| (with_reducible refine we_int ?_))
local macro_rules | `(tactic| walk_at "d1") => `(tactic| (with_reducible refine we_str ?_))
local macro_rules | `(tactic| walk_at "d1") => `(tactic| (with_reducible refine we_op ?_))
local macro_rules | `(tactic| walk_at "d1") => `(tactic| ((with_reducible refine' we_var ?h1 ?_); (case h1 => exact rfl)))
local macro_rules | `(tactic| walk_at "d1") => `(tactic| (with_reducible refine wa_cons ?_))
local macro_rules | `(tactic| walk_at "d") => `(tactic| repeat (walk_at "d1"))
theorem sc_place_by : FnScope ["term", "index", "inner"] ["term"] (defScope s_place_by) := ⟨rfl, rfl, rfl, by decide +kernel, rfl, by decide +kernel, by decide +kernel⟩
theorem sc_summed : FnScope ["word", "one", "other"] ["word", "one", "other"] (defScope s_summed) := ⟨rfl, rfl, rfl, by decide +kernel, rfl, by decide +kernel, by decide +kernel⟩
theorem sc_fault_of : FnScope ["part", "word", "one"] ["part"] (defScope s_fault_of) := ⟨rfl, rfl, rfl, by decide +kernel, rfl, by decide +kernel, by decide +kernel⟩
def plO : Option (List Nat) → Dv
  | none => .non
  | some pl => plD pl
def S_place (n : Nat) : SpD := fun xs M Q => ∃ t : Tm, xs = [t.enc] ∧ t.cl 0 = true ∧ t.dep ≤ n ∧ ∀ M', MEx M M' → Q (plO t.place) M'
theorem look_tab {t : Tm} (h : t.isUse = true) (hv : t.isVal = false) : lookTab.lookup t.word = some ((List.range t.looks).map fun n => ((n : Nat) : Int)) := by
  have e1 : ∀ w : W1, w ≠ .fn → w ≠ .again → lookTab.lookup w.s = some [0] := fun w h1 h2 => by
    cases w <;> first | decide +kernel | exact absurd rfl h1 | exact absurd rfl h2
  have e2 : ∀ w : W2, lookTab.lookup w.s = some [0, 1] := fun w => by cases w <;> decide +kernel
  cases t with
  | u1 w a => exact e1 w (fun e => by subst e; cases hv) (fun e => by subst e; cases hv)
  | u2 w a b => exact e2 w
  | u3 a b c => exact (by decide +kernel : lookTab.lookup ("test" : Str) = some [0])
  | _ => cases h
theorem looks_lt {t : Tm} {i : Nat} (h : i < t.looks) : ∃ p, t.parts[i]? = some p := by
  cases t with
  | u1 w a => match i, h with
    | 0, _ => exact ⟨a, rfl⟩
  | u2 w a b => match i, h with
    | 0, _ => exact ⟨a, rfl⟩
    | 1, _ => exact ⟨b, rfl⟩
  | u3 a b c => match i, h with
    | 0, _ => exact ⟨a, rfl⟩
  | _ => exact absurd h (Nat.not_lt_zero _)
theorem looks_cl {t p : Tm} {i : Nat} (hv : t.isVal = false) (h : i < t.looks) (hp : t.parts[i]? = some p) (hc : t.cl 0 = true) : p.cl 0 = true := by
  cases t with
  | u1 w a => match i, h, hp with
    | 0, _, hp =>
      cases hp
      cases w <;> first | exact hc | cases hv
  | u2 w a b =>
    have hc' : (a.cl 0 && b.cl 0) = true := hc
    rw [Bool.and_eq_true] at hc'
    match i, h, hp with
    | 0, _, hp => cases hp; exact hc'.1
    | 1, _, hp => cases hp; exact hc'.2
  | u3 a b c =>
    have hc' : (a.cl 0 && b.cl 0 && c.cl 0) = true := hc
    rw [Bool.and_eq_true, Bool.and_eq_true] at hc'
    match i, h, hp with
    | 0, _, hp => cases hp; exact hc'.1.1
  | _ => exact absurd h (Nat.not_lt_zero _)
theorem use_of {t : Tm} (hc : t.cl 0 = true) (hv : t.isVal = false) : t.isUse = true := by
  cases t with
  | name k => simp [Tm.cl] at hc
  | num n => cases hv
  | «at» k => cases hv
  | _ => rfl
section
variable {P : Program} {w : World} {K : PySem.W.Frag} {mg : Str → Option Value} {base : Heap}
theorem step_place_by (G : Glb K mg) (GW : GlbW K w mg) {L n : Nat} (hn1 : n ≤ 1000) (c_is_value_by : Cal P w K mg base L "is_value_by" (S_isval (n + 1)) []) (c_place_by : Cal P w K mg base (n + L) "place_by" (S_place n) []) : Cal P w K mg base (n + L + 1) "place_by" (S_place (n + 1)) [] := by
  obtain ⟨aLOOKED_AT, mLOOKED_AT, hL⟩ := GW.k_LOOK
  refine cal_mk (ps := ["term"]) G.d_place_by (fun _ _ _ _ _ _ us hl => match us, hl with | [_], _ => rfl) sc_place_by (fun xs M Q h => by obtain ⟨t, rfl, _⟩ := h; rfl) fun f cdv A outer s H E hr => ⟨_, (pss_cons (ps_if (pt_val (pe_cal c_is_value_by hr (by omega) ⟨rfl, rfl, rfl, rfl, rfl⟩ rfl (pa_cons (pv 0) pa_nil)))
        (pss_one (ps_ret pe_non))
        pss_nil)
      (pss_cons (ps_for PassesOwn.never rfl (pi_tupK (K := K) rfl (pe_ix (ix_kdictK (K := K) (w := w) rfl rfl) (pe_glob (v := .ref aLOOKED_AT) rfl mLOOKED_AT rfl) (pe_ix (ix_tupK (K := K) rfl) (pv 0) pe_int (fun _ _ => rfl)) (fun _ _ => rfl))) (pg_name (i := 1) sc_place_by.nd rfl (.inl rfl))
        (pss_cons (ps_set (i := 2) sc_place_by.nd rfl (.inl rfl) (pe_cal c_place_by hr (by omega) ⟨rfl, rfl, rfl, rfl, rfl⟩ rfl (pa_cons (pe_ix (ix_tupK (K := K) rfl) (pv 0) (pe_op op_add (pv 1) pe_int) (fun _ _ => rfl)) pa_nil)))
        (pss_one (ps_if (pt_cmpR op_notN (pv 2) pe_non (nomark _))
          (pss_one (ps_ret (pe_tup (pa_cons (pv 1) (pa_starK (K := K) rfl (pv 2) pa_nil)))))
          pss_nil))))
      (pss_one (ps_ret (pe_tup pa_nil))))), fun xs M Q h => ?_⟩
  obtain ⟨t, rfl, hc, hd, q⟩ := h
  walk_at "d"
  refine ⟨t, rfl, hd, fun M2 h2 => ?_⟩
  walk_at "d"
  refine ⟨fun e => ?_, fun e => ?_⟩
  · walk_at "d"
    rw [Tm.place_val e] at q
    exact q M2 h2
  have hu := use_of hc e
  rw [Tm.enc_use hu]
  walk_at "d"
  refine ws_forU (List.range t.looks) natD (fun n ds' M' => MEx M M' ∧ (∀ j < n, t.placeAt j = none) ∧ ∃ a b, ds' = [some (.tup (.str t.word :: t.parts.map Tm.enc)), a, b]) ?_ ?_ ?_
  · refine we_op (we_c (d := .adr aLOOKED_AT) (fun H => .adr _) ?_)
    walk_at "d"
    refine rv_look hL (look_tab hu e) ?_
    exact ⟨by rw [List.map_map]; rfl, h2, fun j hj => absurd hj (Nat.not_lt_zero _), none, none, rfl⟩
  · rintro k i ds' M' hk ⟨mx, hn, a, b, rfl⟩
    have hkl : k < t.looks := by
      have := (List.getElem?_eq_some_iff.mp hk).1
      rwa [List.length_range] at this
    rw [List.getElem?_range hkl] at hk
    cases hk
    obtain ⟨p, hp⟩ := looks_lt hkl
    have e2 : ((k : Int) + 1) = ((k + 1 : Nat) : Int) := by omega
    unfold natD
    walk_at "d"
    rw [e2]
    refine rv_ixT (d := p.enc) (atI_nat (by rw [List.getElem?_cons_succ, List.getElem?_map, hp]; rfl)) ?_
    walk_at "d"
    refine ⟨p, rfl, looks_cl e hkl hp hc, by have := Tm.dep_part (List.mem_of_getElem? hp); omega, fun M3 h3 => ?_⟩
    walk_at "d"
    have hpa : t.placeAt k = p.place := by unfold Tm.placeAt; rw [hp]; rfl
    cases ep : p.place with
    | none =>
      refine br_f rfl ?_
      walk_at "d"
      exact ⟨mx.trans h3, fun j hj => (Nat.lt_succ_iff_lt_or_eq.mp hj).elim (hn j) fun z => by rw [z, hpa, ep], _, _, rfl⟩
    | some pl =>
      refine br_t rfl ?_
      walk_at "d"
      refine wa_starT ?_
      walk_at "d"
      rw [Tm.place_hit e hkl hn (hpa.trans ep)] at q
      have q' := q M3 (mx.trans h3)
      have hpl := Tm.place_len p ep
      have hdp := Tm.dep_part (List.mem_of_getElem? hp)
      rw [List.append_nil]
      refine ⟨by simp; omega, ?_⟩
      exact q'
  · rintro ds' M' ⟨mx, hn, a, b, rfl⟩
    rw [List.length_range] at hn
    walk_at "d"
    rw [Tm.place_miss hu e hn] at q
    exact q M' mx
/-! tests on a part's word -/
theorem fn_in (t : Tm) : inD (.str t.word) [.str "fn", .str "again"] = t.isFn := by
  have e1 : ∀ w : W1, inD (.str w.s) [.str "fn", .str "again"] = (match w with | .fn => true | .again => true | _ => false) := fun w => by cases w <;> decide +kernel
  have e2 : ∀ w : W2, inD (.str w.s) [.str "fn", .str "again"] = false := fun w => by cases w <;> decide +kernel
  cases t with
  | u1 w a => exact (e1 w).trans (by cases w <;> rfl)
  | u2 w a b => exact e2 w
  | u3 a b c => exact (by decide +kernel : inD (.str "test") [.str "fn", .str "again"] = false)
  | num n => exact (by decide +kernel : inD (.str "number") [.str "fn", .str "again"] = false)
  | name n => exact (by decide +kernel : inD (.str "name") [.str "fn", .str "again"] = false)
  | «at» n => exact (by decide +kernel : inD (.str "at") [.str "fn", .str "again"] = false)
theorem pair_eq (t : Tm) : decide (t.word = "pair") = t.isPair := by
  have e1 : ∀ w : W1, decide (w.s = "pair") = false := fun w => by cases w <;> decide +kernel
  have e2 : ∀ w : W2, decide (w.s = "pair") = (match w with | .pair => true | _ => false) := fun w => by cases w <;> decide +kernel
  cases t with
  | u1 w a => exact e1 w
  | u2 w a b => exact (e2 w).trans (by cases w <;> rfl)
  | u3 a b c => exact (by decide +kernel : decide (("test" : Str) = "pair") = false)
  | num n => exact (by decide +kernel : decide (("number" : Str) = "pair") = false)
  | name n => exact (by decide +kernel : decide (("name" : Str) = "pair") = false)
  | «at» n => exact (by decide +kernel : decide (("at" : Str) = "pair") = false)
theorem num_eq (t : Tm) : decide (t.word = "number") = t.isNum := by
  cases h : t.isUse with
  | true =>
    rw [use_num h]
    cases t <;> first | rfl | cases h
  | false =>
    cases t with
    | num n => exact (by decide +kernel : decide (("number" : Str) = "number") = true)
    | name n => exact (by decide +kernel : decide (("name" : Str) = "number") = false)
    | «at» n => exact (by decide +kernel : decide (("at" : Str) = "number") = false)
    | _ => cases h
theorem at_eq (t : Tm) : decide (t.word = "at") = t.isAt := by
  cases h : t.isUse with
  | true =>
    rw [use_at h]
    cases t <;> first | rfl | cases h
  | false =>
    cases t with
    | num n => exact (by decide +kernel : decide (("number" : Str) = "at") = false)
    | name n => exact (by decide +kernel : decide (("name" : Str) = "at") = false)
    | «at» n => exact (by decide +kernel : decide (("at" : Str) = "at") = true)
    | _ => cases h
def fO : Option Str → Dv
  | none => .non
  | some z => .str z
def W2.ar : W2 → Bool | .plus => true | .minus => true | .times => true | _ => false
def S_summed : SpD := fun xs M Q => ∃ (w : W2) (x y : Int), xs = [.str w.s, .int x, .int y] ∧ w.ar = true ∧ -999999999 ≤ x ∧ x ≤ 999999999 ∧ -999999999 ≤ y ∧ y ≤ 999999999 ∧ ∀ M', MEx M M' → Q (.int (Tm.sums w x y)) M'
def S_fault : SpD := fun xs M Q => ∃ (t : Tm) (m : Nat), xs = [t.enc] ∧ t.redex = true ∧ t.wf m 0 = true ∧ ∀ M', MEx M M' → Q (fO t.fault) M'
theorem cal_summed (G : Glb K mg) : Cal P w K mg base 1 "summed" S_summed [] := by
  refine cal_mk (ps := ["word", "one", "other"]) G.d_summed (fun _ _ _ _ _ _ us hl => match us, hl with | [_, _, _], _ => rfl) sc_summed (fun xs M Q h => by obtain ⟨t, x, y, rfl, _⟩ := h; rfl) fun f cdv A outer s H E hr => ⟨_, (pss_cons (ps_if (pt_cmpR op_eq (pv 0) pe_str (nomark _))
        (pss_one (ps_ret (pe_op op_add (pv 1) (pv 2))))
        pss_nil)
      (pss_cons (ps_if (pt_cmpR op_eq (pv 0) pe_str (nomark _))
        (pss_one (ps_ret (pe_op op_sub (pv 1) (pv 2))))
        pss_nil)
      (pss_one (ps_ret (pe_op op_mul (pv 1) (pv 2)))))), fun xs M Q h => ?_⟩
  obtain ⟨w, x, y, rfl, hw, h1, h2, h3, h4, q⟩ := h
  cases w with
  | plus =>
    walk_at "d"
    exact q M .refl
  | minus =>
    walk_at "d"
    exact q M .refl
  | times =>
    walk_at "d"
    refine rv_mul ?_ ?_
    · exact .inl ⟨by omega, by omega⟩
    exact q M .refl
  | _ => cases hw
theorem cal_fault_of (G : Glb K mg) (c_summed : Cal P w K mg base 1 "summed" S_summed []) (c_is_number : Cal P w K mg base 2 "is_number" S_number []) : Cal P w K mg base 3 "fault_of" S_fault [] := by
  refine cal_mk (ps := ["part"]) G.d_fault_of (fun _ _ _ _ _ _ us hl => match us, hl with | [_], _ => rfl) sc_fault_of (fun xs M Q h => by obtain ⟨t, m, rfl, _⟩ := h; rfl) fun f cdv A outer s H E hr => ⟨_, (pss_cons (ps_par (i := 1) (j := 2) (by rfl) sc_fault_of.nd rfl rfl (by decide) rfl rfl (pa_cons (pe_ix (ix_tupK (K := K) rfl) (pv 0) pe_int (fun _ _ => rfl)) (pa_cons (pe_ix (ix_tupK (K := K) rfl) (pv 0) pe_int (fun _ _ => rfl)) pa_nil)) (by rfl))
      (pss_cons (ps_if (pt_cmpR op_eq (pv 1) pe_str (nomark _))
        (pss_one (ps_ret (pe_ifExp (pt_cmpR (op_inK (K := K) rfl) (pe_ix (ix_tupK (K := K) rfl) (pv 2) pe_int (fun _ _ => rfl)) (pe_tup (pa_cons pe_str (pa_cons pe_str pa_nil))) (by rfl)) pe_non pe_str)))
        pss_nil)
      (pss_cons (ps_if (pt_cmpR (op_inK (K := K) rfl) (pv 1) (pe_tup (pa_cons pe_str (pa_cons pe_str pa_nil))) (by rfl))
        (pss_one (ps_ret (pe_ifExp (pt_cmpR op_eq (pe_ix (ix_tupK (K := K) rfl) (pv 2) pe_int (fun _ _ => rfl)) pe_str (nomark _)) pe_non pe_str)))
        pss_nil)
      (pss_cons (ps_if (pt_cmpR (op_inK (K := K) rfl) (pv 1) (pe_tup (pa_cons pe_str (pa_cons pe_str pa_nil))) (by rfl))
        (pss_one (ps_ret (pe_ifExp (pt_cmpR op_eq (pe_ix (ix_tupK (K := K) rfl) (pv 2) pe_int (fun _ _ => rfl)) pe_str (nomark _)) pe_non pe_str)))
        pss_nil)
      (pss_cons (ps_if (pt_cmpR (op_inK (K := K) rfl) (pv 1) (pe_tup (pa_cons pe_str (pa_cons pe_str pa_nil))) (by rfl))
        (pss_one (ps_ret (pe_ifExp (pt_cmpR op_eq (pe_ix (ix_tupK (K := K) rfl) (pv 2) pe_int (fun _ _ => rfl)) pe_str (nomark _)) pe_non pe_str)))
        pss_nil)
      (pss_cons (ps_if (pt_cmpR op_eq (pv 1) pe_str (nomark _))
        (pss_one (ps_ret pe_non))
        pss_nil)
      (pss_cons (ps_if (PW.pt (pw_or (pt_cmpR op_ne (pe_ix (ix_tupK (K := K) rfl) (pv 2) pe_int (fun _ _ => rfl)) pe_str (nomark _)) (pw_or1 (pt_cmpR op_ne (pe_ix (ix_tupK (K := K) rfl) (pe_ix (ix_tupK (K := K) rfl) (pv 0) pe_int (fun _ _ => rfl)) pe_int (fun _ _ => rfl)) pe_str (nomark _)))))
        (pss_one (ps_ret pe_str))
        pss_nil)
      (pss_one (ps_ret (pe_ifExp (pt_val (pe_cal c_is_number hr (by omega) ⟨rfl, rfl, rfl, rfl, rfl⟩ rfl (pa_cons (pe_cal c_summed hr (by omega) ⟨rfl, rfl, rfl, rfl, rfl⟩ rfl (pa_cons (pv 1) (pa_cons (pe_ix (ix_tupK (K := K) rfl) (pv 2) pe_int (fun _ _ => rfl)) (pa_cons (pe_ix (ix_tupK (K := K) rfl) (pe_ix (ix_tupK (K := K) rfl) (pv 0) pe_int (fun _ _ => rfl)) pe_int (fun _ _ => rfl)) pa_nil)))) pa_nil))) pe_non pe_str)))))))))), fun xs M Q h => ?_⟩
  obtain ⟨t, m, rfl, hre, hw, q⟩ := h
  cases t with
  | u1 w a =>
    obtain ⟨r, er⟩ := enc_head a
    cases w with
    | fn => cases hre
    | again => cases hre
    | box =>
      simp only [Tm.enc]
      walk_at "d"
      exact q M .refl
    | first =>
      simp only [Tm.enc, er]
      walk_at "d"
      have q' := q M .refl
      refine br (fun e => ?_) (fun e => ?_)
      · walk_at "d"
        rw [pair_eq] at e
        rw [Tm.fault, e] at q'
        exact q'
      · walk_at "d"
        rw [pair_eq] at e
        rw [Tm.fault, e] at q'
        exact q'
    | second =>
      simp only [Tm.enc, er]
      walk_at "d"
      have q' := q M .refl
      refine br (fun e => ?_) (fun e => ?_)
      · walk_at "d"
        rw [pair_eq] at e
        rw [Tm.fault, e] at q'
        exact q'
      · walk_at "d"
        rw [pair_eq] at e
        rw [Tm.fault, e] at q'
        exact q'
    | look =>
      simp only [Tm.enc, er]
      walk_at "d"
      have q' := q M .refl
      refine br (fun e => ?_) (fun e => ?_)
      · walk_at "d"
        rw [at_eq] at e
        rw [Tm.fault, e] at q'
        exact q'
      · walk_at "d"
        rw [at_eq] at e
        rw [Tm.fault, e] at q'
        exact q'
    | say =>
      simp only [Tm.enc, er]
      walk_at "d"
      have q' := q M .refl
      refine br (fun e => ?_) (fun e => ?_)
      · walk_at "d"
        rw [num_eq] at e
        rw [Tm.fault, e] at q'
        exact q'
      · walk_at "d"
        rw [num_eq] at e
        rw [Tm.fault, e] at q'
        exact q'
  | u3 a b c =>
    obtain ⟨r, er⟩ := enc_head a
    simp only [Tm.enc, er]
    walk_at "d"
    have q' := q M .refl
    refine br (fun e => ?_) (fun e => ?_)
    · walk_at "d"
      rw [num_eq] at e
      rw [Tm.fault, e] at q'
      exact q'
    · walk_at "d"
      rw [num_eq] at e
      rw [Tm.fault, e] at q'
      exact q'
  | u2 w a b =>
    obtain ⟨r, er⟩ := enc_head a
    obtain ⟨r2, er2⟩ := enc_head b
    cases w with
    | pair => cases hre
    | call =>
      simp only [Tm.enc, er, er2]
      walk_at "d"
      have q' := q M .refl
      refine br (fun e => ?_) (fun e => ?_)
      · walk_at "d"
        rw [fn_in] at e
        rw [Tm.fault, e] at q'
        exact q'
      · walk_at "d"
        rw [fn_in] at e
        rw [Tm.fault, e] at q'
        exact q'
    | put =>
      simp only [Tm.enc, er, er2]
      walk_at "d"
      have q' := q M .refl
      refine br (fun e => ?_) (fun e => ?_)
      · walk_at "d"
        rw [at_eq] at e
        rw [Tm.fault, e] at q'
        exact q'
      · walk_at "d"
        rw [at_eq] at e
        rw [Tm.fault, e] at q'
        exact q'
    | plus =>
      rcases num_or a with ⟨x, rfl⟩ | ha
      · rcases num_or b with ⟨y, rfl⟩ | hb
        · simp only [Tm.enc]
          have hw' : (decide (-999999999 ≤ x ∧ x ≤ 999999999) && decide (-999999999 ≤ y ∧ y ≤ 999999999)) = true := hw
          rw [Bool.and_eq_true] at hw'
          have hx := of_decide_eq_true hw'.1
          have hy := of_decide_eq_true hw'.2
          walk_at "d"
          refine ⟨.plus, x, y, rfl, rfl, hx.1, hx.2, hy.1, hy.2, fun M2 h2 => ?_⟩
          walk_at "d"
          refine ⟨_, rfl, fun M3 h3 => ?_⟩
          walk_at "d"
          have q' := q M3 (h2.trans h3)
          refine br (fun e => ?_) (fun e => ?_)
          · walk_at "d"
            have e' : Tm.inR (Tm.sums .plus x y) = true := e
            simp only [Tm.fault, Tm.faultN, e'] at q'
            exact q'
          · walk_at "d"
            have e' : Tm.inR (Tm.sums .plus x y) = false := e
            simp only [Tm.fault, Tm.faultN, e'] at q'
            exact q'
        · simp only [Tm.enc, er2]
          walk_at "d"
          refine br_t (by rw [num_eq, hb]; rfl) ?_
          walk_at "d"
          have q' := q M .refl
          simp only [Tm.fault, faultN_b hb] at q'
          exact q'
      · simp only [Tm.enc, er, er2]
        walk_at "d"
        refine br_t (by rw [num_eq, ha]; rfl) ?_
        walk_at "d"
        have q' := q M .refl
        simp only [Tm.fault, faultN_a ha] at q'
        exact q'
    | minus =>
      rcases num_or a with ⟨x, rfl⟩ | ha
      · rcases num_or b with ⟨y, rfl⟩ | hb
        · simp only [Tm.enc]
          have hw' : (decide (-999999999 ≤ x ∧ x ≤ 999999999) && decide (-999999999 ≤ y ∧ y ≤ 999999999)) = true := hw
          rw [Bool.and_eq_true] at hw'
          have hx := of_decide_eq_true hw'.1
          have hy := of_decide_eq_true hw'.2
          walk_at "d"
          refine ⟨.minus, x, y, rfl, rfl, hx.1, hx.2, hy.1, hy.2, fun M2 h2 => ?_⟩
          walk_at "d"
          refine ⟨_, rfl, fun M3 h3 => ?_⟩
          walk_at "d"
          have q' := q M3 (h2.trans h3)
          refine br (fun e => ?_) (fun e => ?_)
          · walk_at "d"
            have e' : Tm.inR (Tm.sums .minus x y) = true := e
            simp only [Tm.fault, Tm.faultN, e'] at q'
            exact q'
          · walk_at "d"
            have e' : Tm.inR (Tm.sums .minus x y) = false := e
            simp only [Tm.fault, Tm.faultN, e'] at q'
            exact q'
        · simp only [Tm.enc, er2]
          walk_at "d"
          refine br_t (by rw [num_eq, hb]; rfl) ?_
          walk_at "d"
          have q' := q M .refl
          simp only [Tm.fault, faultN_b hb] at q'
          exact q'
      · simp only [Tm.enc, er, er2]
        walk_at "d"
        refine br_t (by rw [num_eq, ha]; rfl) ?_
        walk_at "d"
        have q' := q M .refl
        simp only [Tm.fault, faultN_a ha] at q'
        exact q'
    | times =>
      rcases num_or a with ⟨x, rfl⟩ | ha
      · rcases num_or b with ⟨y, rfl⟩ | hb
        · simp only [Tm.enc]
          have hw' : (decide (-999999999 ≤ x ∧ x ≤ 999999999) && decide (-999999999 ≤ y ∧ y ≤ 999999999)) = true := hw
          rw [Bool.and_eq_true] at hw'
          have hx := of_decide_eq_true hw'.1
          have hy := of_decide_eq_true hw'.2
          walk_at "d"
          refine ⟨.times, x, y, rfl, rfl, hx.1, hx.2, hy.1, hy.2, fun M2 h2 => ?_⟩
          walk_at "d"
          refine ⟨_, rfl, fun M3 h3 => ?_⟩
          walk_at "d"
          have q' := q M3 (h2.trans h3)
          refine br (fun e => ?_) (fun e => ?_)
          · walk_at "d"
            have e' : Tm.inR (Tm.sums .times x y) = true := e
            simp only [Tm.fault, Tm.faultN, e'] at q'
            exact q'
          · walk_at "d"
            have e' : Tm.inR (Tm.sums .times x y) = false := e
            simp only [Tm.fault, Tm.faultN, e'] at q'
            exact q'
        · simp only [Tm.enc, er2]
          walk_at "d"
          refine br_t (by rw [num_eq, hb]; rfl) ?_
          walk_at "d"
          have q' := q M .refl
          simp only [Tm.fault, faultN_b hb] at q'
          exact q'
      · simp only [Tm.enc, er, er2]
        walk_at "d"
        refine br_t (by rw [num_eq, ha]; rfl) ?_
        walk_at "d"
        have q' := q M .refl
        simp only [Tm.fault, faultN_a ha] at q'
        exact q'
  | _ => cases hre
end
end FS
set_option maxHeartbeats 4000000
namespace FS
open PySem PySem.Spec PyProof.Rows L2
local macro_rules | `(tactic| walk_at "t") => `(tactic| exact use_hole (by assumption))
local macro_rules | `(tactic| walk_at "t") => `(tactic| exact use_at (by assumption))
local macro_rules | `(tactic| walk_at "t") => `(tactic| exact use_name (by assumption))
local macro_rules | `(tactic| walk_at "t") => `(tactic| exact use_num (by assumption))
local macro_rules | `(tactic| walk_at "t") => `(tactic| exact leaf_leaves (by assumption))
local macro_rules | `(tactic| walk_at "t") => `(tactic| exact use_leaves (by assumption))
local macro_rules | `(tactic| walk_at "t") => `(tactic| assumption)
local macro_rules | `(tactic| walk_at "t") => `(tactic| decide +kernel)
local macro_rules | `(tactic| walk_at "t") => `(tactic| rfl)
local macro_rules | `(tactic| walk_at "d1") => `(tactic| (with_reducible refine ⟨_, _, _, rfl, ?_⟩))
local macro_rules | `(tactic| walk_at "d1") => `(tactic| (with_reducible refine ⟨_, _, rfl, ?_⟩))
local macro_rules | `(tactic| walk_at "d1") => `(tactic| ((with_reducible refine rv_fdiv ?h1 ?_); (case h1 => exact ⟨by decide, by decide⟩)))
local macro_rules | `(tactic| walk_at "d1") => `(tactic| ((with_reducible refine rv_mod ?h1 ?_); (case h1 => (show (0 : Int) < _; decide))))
local macro_rules | `(tactic| walk_at "d1") => `(tactic| (with_reducible refine we_call (dxs := [.int 0]) (fun H => .cons (.int 0) .nil) ?_))
local macro_rules | `(tactic| walk_at "d1") => `(tactic| ((with_reducible refine' we_c ?h1 ?_); (case h1 => assumption)))
local macro_rules | `(tactic| walk_at "d1") => `(tactic| (with_reducible refine wt_yes ?_))
local macro_rules | `(tactic| walk_at "d1") => `(tactic| (with_reducible refine wg_name ?_))
local macro_rules | `(tactic| walk_at "d1") => `(tactic| (with_reducible refine rv_ix3 ?_))
local macro_rules | `(tactic| walk_at "d1") => `(tactic| (with_reducible refine rv_ix2 ?_))
local macro_rules | `(tactic| walk_at "d1") => `(tactic| (with_reducible refine rv_notN ?_))
local macro_rules | `(tactic| walk_at "d1") => `(tactic| (with_reducible refine rv_isN ?_))
local macro_rules | `(tactic| walk_at "d1") => `(tactic| (with_reducible refine rv_neS ?_))
local macro_rules | `(tactic| walk_at "d1") => `(tactic| (with_reducible refine rv_ge ?_))
local macro_rules | `(tactic| walk_at "d1") => `(tactic| (with_reducible refine rv_gt ?_))
local macro_rules | `(tactic| walk_at "d1") => `(tactic| (with_reducible refine rv_le ?_))
local macro_rules | `(tactic| walk_at "d1") => `(tactic| (with_reducible refine rv_sub ?_))
local macro_rules | `(tactic| walk_at "d1") => `(tactic| (with_reducible refine wo_some ?_))
local macro_rules | `(tactic| walk_at "d1") => `(tactic| (with_reducible refine wo_none ?_))
local macro_rules | `(tactic| walk_at "d1") => `(tactic| (with_reducible refine we_then ?_))
local macro_rules | `(tactic| walk_at "d1") => `(tactic| (with_reducible refine we_un ?_))
local macro_rules | `(tactic| walk_at "d1") => `(tactic| (with_reducible refine we_chain ?_))
local macro_rules | `(tactic| walk_at "d1") => `(tactic| (with_reducible refine we_if ?_))
local macro_rules | `(tactic| walk_at "d1") => `(tactic| (with_reducible refine we_not ?_))
local macro_rules | `(tactic| walk_at "d1") => `(tactic| (with_reducible refine we_or ?_))
local macro_rules | `(tactic| walk_at "d1") => `(tactic| (with_reducible refine we_and ?_))
local macro_rules | `(tactic| walk_at "d1") => `(tactic| (with_reducible refine wt_not ?_))
local macro_rules | `(tactic| walk_at "d1") => `(tactic| (with_reducible refine wt_B ?_))
local macro_rules | `(tactic| walk_at "d1") => `(tactic| (with_reducible refine we_slT ?_))
local macro_rules | `(tactic| walk_at "d1") => `(tactic| (with_reducible refine we_lst ?_))
local macro_rules | `(tactic| walk_at "d1") => `(tactic| (with_reducible refine we_ty ?_))
local macro_rules | `(tactic| walk_at "d1") => `(tactic| (with_reducible refine we_non ?_))
local macro_rules | `(tactic| walk_at "d1") => `(tactic| (with_reducible refine we_bl ?_))
local macro_rules | `(tactic| walk_at "d1") => `(tactic| (with_reducible refine ws_asg ?_))
local macro_rules | `(tactic| walk_at "d1") => `(tactic| (with_reducible refine ws_par3 ?_))
local macro_rules | `(tactic| walk_at "d1") => `(tactic| (with_reducible refine ws_par ?_))
local macro_rules | `(tactic| walk_at "d1") => `(tactic| (with_reducible refine ws_drop ?_))
local macro_rules | `(tactic| walk_at "d1") => `(tactic| (with_reducible refine ru_neg ?_))
local macro_rules | `(tactic| walk_at "d1") => `(tactic| (with_reducible refine rl_isi_bb ?_))
local macro_rules | `(tactic| walk_at "d1") => `(tactic| (with_reducible refine rl_isi_bt ?_))
local macro_rules | `(tactic| walk_at "d1") => `(tactic| (with_reducible refine rl_isi_sb ?_))
local macro_rules | `(tactic| walk_at "d1") => `(tactic| (with_reducible refine rl_isi_st ?_))
local macro_rules | `(tactic| walk_at "d1") => `(tactic| (with_reducible refine rl_isi_is ?_))
local macro_rules | `(tactic| walk_at "d1") => `(tactic| (with_reducible refine rl_isi_it ?_))
local macro_rules | `(tactic| walk_at "d1") => `(tactic| (with_reducible refine rl_isi_ib ?_))
local macro_rules | `(tactic| walk_at "d1") => `(tactic| (with_reducible refine rl_isi_ii ?_))
local macro_rules | `(tactic| walk_at "d1") => `(tactic| (with_reducible refine rl_isi_ss ?_))
local macro_rules | `(tactic| walk_at "d1") => `(tactic| (with_reducible refine rl_isi_tt ?_))
local macro_rules | `(tactic| walk_at "d1") => `(tactic| (with_reducible refine rl_abs ?_))
local macro_rules | `(tactic| walk_at "d1") => `(tactic| (with_reducible refine rl_int ?_))
local macro_rules | `(tactic| walk_at "d1") => `(tactic| (with_reducible refine wt_or ?_))
local macro_rules | `(tactic| walk_at "d1") => `(tactic| (with_reducible refine rv_lt ?_))
local macro_rules | `(tactic| walk_at "d1") => `(tactic| (with_reducible refine rv_add ?_))
local macro_rules | `(tactic| walk_at "d1") => `(tactic| (with_reducible refine we_cb ?_))
local macro_rules | `(tactic| walk_at "d1") => `(tactic| (with_reducible refine ws_set ?_))
local macro_rules | `(tactic| walk_at "d1") => `(tactic| (with_reducible refine rv_ix1 ?_))
local macro_rules | `(tactic| walk_at "d1") => `(tactic| (with_reducible refine wt_and ?_))
local macro_rules | `(tactic| walk_at "d1") => `(tactic| (with_reducible refine we_call0 ?_))
local macro_rules | `(tactic| walk_at "d1") => `(tactic| ((with_reducible refine br_t ?h1 ?_); (case h1 => walk_at "t")))
local macro_rules | `(tactic| walk_at "d1") => `(tactic| ((with_reducible refine rv_inT ?a1 ?a2 ?_); (case a1 => rfl); (case a2 => first | rfl | decide +kernel)))
local macro_rules | `(tactic| walk_at "d1") => `(tactic| ((with_reducible refine len_and ?h1 ?_); (case h1 => first | decide | (simp; done) | (simp; omega))))
local macro_rules | `(tactic| walk_at "d1") => `(tactic| ((with_reducible refine br_f ?h1 ?_); (case h1 => walk_at "t")))
local macro_rules | `(tactic| walk_at "d1") => `(tactic| (with_reducible refine ⟨_, rfl, ?_⟩))
local macro_rules | `(tactic| walk_at "d1") => `(tactic| (with_reducible refine ws_ret ?_))
local macro_rules | `(tactic| walk_at "d1") => `(tactic| (with_reducible refine rv_eqS ?_))
local macro_rules | `(tactic| walk_at "d1") => `(tactic| (with_reducible refine we_tup ?_))
local macro_rules | `(tactic| walk_at "d1") => `(tactic| (with_reducible refine rv_ix0 ?_))
local macro_rules | `(tactic| walk_at "d1") => `(tactic| (with_reducible refine ws_next ?_))
local macro_rules | `(tactic| walk_at "d1") => `(tactic| (with_reducible refine ws_if ?_))
local macro_rules | `(tactic| walk_at "d1") => `(tactic| (with_reducible refine wt_test ?_))
local macro_rules | `(tactic| walk_at "d1") => `(tactic| (with_reducible refine ws_seq ?_))
local macro_rules | `(tactic| walk_at "d1") => `(tactic| (with_reducible refine wa_nil ?_))
local macro_rules | `(tactic| walk_at "d1") => `(tactic| (with_reducible refine we_int ?_))
local macro_rules | `(tactic| walk_at "d1") => `(tactic| (with_reducible refine we_str ?_))
local macro_rules | `(tactic| walk_at "d1") => `(tactic| (with_reducible refine we_op ?_))
local macro_rules | `(tactic| walk_at "d1") => `(tactic| ((with_reducible refine' we_var ?h1 ?_); (case h1 => exact rfl)))
local macro_rules | `(tactic| walk_at "d1") => `(tactic| (with_reducible refine wa_cons ?_))
local macro_rules | `(tactic| walk_at "d") => `(tactic| repeat (walk_at "d1"))
theorem sc_outcome_by : FnScope ["term", "place", "fault"] ["term"] (defScope s_outcome_by) := ⟨rfl, rfl, rfl, by decide +kernel, rfl, by decide +kernel, by decide +kernel⟩
theorem sc_made : FnScope ["boxes", "part", "word", "one"] ["boxes", "part"] (defScope s_made) := ⟨rfl, rfl, rfl, by decide +kernel, rfl, by decide +kernel, by decide +kernel⟩
def S_out (n : Nat) : SpD := fun xs M Q => ∃ (t : Tm) (m : Nat), xs = [t.enc] ∧ t.wf m 0 = true ∧ t.dep ≤ n ∧ ∀ M', MEx M M' → Q (.str (outcome t)) M'
def S_made : SpD := fun xs M Q => ∃ (bs : List Tm) (t : Tm), xs = [.tup (bs.map Tm.enc), t.enc] ∧ t.redex = true ∧ t.fault = none ∧ t.wf bs.length 0 = true ∧ t.isCall = false ∧ bs.length ≤ 100000 ∧ ∀ M', MEx M M' → Q (.tup [.tup ((made bs t).1.map Tm.enc), (made bs t).2.1.enc]) M'
section
variable {P : Program} {w : World} {K : PySem.W.Frag} {mg : Str → Option Value} {base : Heap}
theorem cal_outcome_by (G : Glb K mg) {L n : Nat} (hL : 3 ≤ L) (c_place_by : Cal P w K mg base L "place_by" (S_place n) []) (c_part_by : Cal P w K mg base 1 "part_by" S_part []) (c_fault_of : Cal P w K mg base 3 "fault_of" S_fault []) : Cal P w K mg base (L + 1) "outcome_by" (S_out n) [] := by
  refine cal_mk (ps := ["term"]) G.d_outcome_by (fun _ _ _ _ _ _ us hl => match us, hl with | [_], _ => rfl) sc_outcome_by (fun xs M Q h => by obtain ⟨t, m, rfl, _⟩ := h; rfl) fun f cdv A outer s H E hr => ⟨_, (pss_cons (ps_set (i := 1) sc_outcome_by.nd rfl (.inl rfl) (pe_cal c_place_by hr (by omega) ⟨rfl, rfl, rfl, rfl, rfl⟩ rfl (pa_cons (pv 0) pa_nil)))
      (pss_cons (ps_if (pt_cmpR op_isN (pv 1) pe_non (nomark _))
        (pss_one (ps_ret pe_str))
        pss_nil)
      (pss_cons (ps_set (i := 2) sc_outcome_by.nd rfl (.inl rfl) (pe_cal c_fault_of hr (by omega) ⟨rfl, rfl, rfl, rfl, rfl⟩ rfl (pa_cons (pe_cal c_part_by hr (by omega) ⟨rfl, rfl, rfl, rfl, rfl⟩ rfl (pa_cons (pv 0) (pa_cons (pv 1) pa_nil))) pa_nil)))
      (pss_one (ps_ret (pe_ifExp (pt_cmpR op_isN (pv 2) pe_non (nomark _)) pe_str (pv 2))))))), fun xs M Q h => ?_⟩
  obtain ⟨t, m, rfl, hw, hd, q⟩ := h
  walk_at "d"
  refine ⟨t, rfl, wf_clX hw, hd, fun M2 h2 => ?_⟩
  walk_at "d"
  cases e : t.place with
  | none =>
    refine br_t rfl ?_
    walk_at "d"
    simp only [outcome, e] at q
    exact q M2 h2
  | some pl =>
    obtain ⟨u, h1, h3, h4, h5, h6, h7⟩ := place_part t hw e
    refine br_f rfl ?_
    walk_at "d"
    refine ⟨t, pl, u, rfl, h1, fun M3 h8 => ?_⟩
    walk_at "d"
    refine ⟨u, m, rfl, h3, h4, fun M4 h9 => ?_⟩
    have q' := q M4 ((h2.trans h8).trans h9)
    simp only [outcome, e, h1] at q'
    walk_at "d"
    cases ef : u.fault with
    | none =>
      rw [ef] at q'
      refine br_t rfl ?_
      walk_at "d"
      exact q'
    | some z =>
      rw [ef] at q'
      refine br_f rfl ?_
      walk_at "d"
      exact q'
theorem set_cut (bs : List Tm) (k : Nat) (hk : k < bs.length) (v : Tm) : ((bs.map Tm.enc).take k ++ [v.enc]) ++ (bs.map Tm.enc).drop (k + 1) = (bs.set k v).map Tm.enc := by
  rw [List.map_set, List.set_eq_take_append_cons_drop, if_pos (by rw [List.length_map]; exact hk)]
  simp
theorem cal_made (G : Glb K mg) (c_summed : Cal P w K mg base 1 "summed" S_summed []) : Cal P w K mg base 2 "made" S_made [] := by
  refine cal_mk (ps := ["boxes", "part"]) G.d_made (fun _ _ _ _ _ _ us hl => match us, hl with | [_, _], _ => rfl) sc_made (fun xs M Q h => by obtain ⟨t, m, rfl, _⟩ := h; rfl) fun f cdv A outer s H E hr => ⟨_, (pss_cons (ps_par (i := 2) (j := 3) (by rfl) sc_made.nd rfl rfl (by decide) rfl rfl (pa_cons (pe_ix (ix_tupK (K := K) rfl) (pv 1) pe_int (fun _ _ => rfl)) (pa_cons (pe_ix (ix_tupK (K := K) rfl) (pv 1) pe_int (fun _ _ => rfl)) pa_nil)) (by rfl))
      (pss_cons (ps_if (pt_cmpR (op_inK (K := K) rfl) (pv 2) (pe_tup (pa_cons pe_str (pa_cons pe_str pa_nil))) (by rfl))
        (pss_one (ps_ret (pe_tup (pa_cons (pv 0) (pa_cons (pe_ifExp (pt_cmpR op_eq (pv 2) pe_str (nomark _)) (pe_ix (ix_tupK (K := K) rfl) (pv 3) pe_int (fun _ _ => rfl)) (pe_ix (ix_tupK (K := K) rfl) (pv 3) pe_int (fun _ _ => rfl))) pa_nil)))))
        pss_nil)
      (pss_cons (ps_if (pt_cmpR op_eq (pv 2) pe_str (nomark _))
        (pss_one (ps_ret (pe_tup (pa_cons (pv 0) (pa_cons (pe_ifExp (pt_cmpR op_eq (pe_ix (ix_tupK (K := K) rfl) (pv 3) pe_int (fun _ _ => rfl)) pe_int (nomark _)) (pe_ix (ix_tupK (K := K) rfl) (pv 1) pe_int (fun _ _ => rfl)) (pe_ix (ix_tupK (K := K) rfl) (pv 1) pe_int (fun _ _ => rfl))) pa_nil)))))
        pss_nil)
      (pss_cons (ps_if (pt_cmpR op_eq (pv 2) pe_str (nomark _))
        (pss_one (ps_ret (pe_tup (pa_cons (pe_op (op_catK (K := K) rfl) (pv 0) (pe_tup (pa_cons (pv 3) pa_nil))) (pa_cons (pe_tup (pa_cons pe_str (pa_cons (pe_callB (call_lenK (K := K) rfl) (by rfl) G.b_len PySem.boot_len (pa_cons (pv 0) pa_nil)) pa_nil))) pa_nil)))))
        pss_nil)
      (pss_cons (ps_if (pt_cmpR op_eq (pv 2) pe_str (nomark _))
        (pss_one (ps_ret (pe_tup (pa_cons (pv 0) (pa_cons (pe_ix (ix_tupK (K := K) rfl) (pv 0) (pe_ix (ix_tupK (K := K) rfl) (pv 3) pe_int (fun _ _ => rfl)) (fun _ _ => rfl)) pa_nil)))))
        pss_nil)
      (pss_cons (ps_if (pt_cmpR op_eq (pv 2) pe_str (nomark _))
        (pss_one (ps_ret (pe_tup (pa_cons (pe_op (op_catK (K := K) rfl) (pe_op (op_catK (K := K) rfl) (pe_slice (sl_tupK (K := K) rfl) (pv 0) po_none (po_some (pe_ix (ix_tupK (K := K) rfl) (pv 3) pe_int (fun _ _ => rfl)))) (pe_tup (pa_cons (pe_ix (ix_tupK (K := K) rfl) (pv 1) pe_int (fun _ _ => rfl)) pa_nil))) (pe_slice (sl_tupK (K := K) rfl) (pv 0) (po_some (pe_op op_add (pe_ix (ix_tupK (K := K) rfl) (pv 3) pe_int (fun _ _ => rfl)) pe_int)) po_none)) (pa_cons (pe_ix (ix_tupK (K := K) rfl) (pv 1) pe_int (fun _ _ => rfl)) pa_nil)))))
        pss_nil)
      (pss_cons (ps_if (pt_cmpR op_eq (pv 2) pe_str (nomark _))
        (pss_one (ps_ret (pe_tup (pa_cons (pv 0) (pa_cons (pv 3) pa_nil)))))
        pss_nil)
      (pss_one (ps_ret (pe_tup (pa_cons (pv 0) (pa_cons (pe_tup (pa_cons pe_str (pa_cons (pe_cal c_summed hr (by omega) ⟨rfl, rfl, rfl, rfl, rfl⟩ rfl (pa_cons (pv 2) (pa_cons (pe_ix (ix_tupK (K := K) rfl) (pv 3) pe_int (fun _ _ => rfl)) (pa_cons (pe_ix (ix_tupK (K := K) rfl) (pe_ix (ix_tupK (K := K) rfl) (pv 1) pe_int (fun _ _ => rfl)) pe_int (fun _ _ => rfl)) pa_nil)))) pa_nil))) pa_nil)))))))))))), fun xs M Q h => ?_⟩
  obtain ⟨bs, t, rfl, hre, hf, hw, hc, hb, q⟩ := h
  cases t with
  | u1 w a =>
    cases w with
    | fn => cases hre
    | again => cases hre
    | box =>
      simp only [Tm.enc]
      walk_at "d"
      refine rv_catT (by simp; omega) ?_
      walk_at "d"
      refine rl_lenT ?_
      walk_at "d"
      rw [List.length_map]
      have q' := q M .refl
      simp only [made, List.map_append] at q'
      exact q'
    | first =>
      obtain ⟨x, y, rfl⟩ := pair_of (ite_none hf)
      simp only [Tm.enc]
      walk_at "d"
      exact q M .refl
    | second =>
      obtain ⟨x, y, rfl⟩ := pair_of (ite_none hf)
      simp only [Tm.enc]
      walk_at "d"
      exact q M .refl
    | look =>
      obtain ⟨k, rfl⟩ := at_of (ite_none hf)
      have hk : k < bs.length := of_decide_eq_true hw
      obtain ⟨eb, _⟩ := bx_mem hk
      simp only [Tm.enc]
      walk_at "d"
      refine rv_ixT (atI_nat (by rw [List.getElem?_map, eb]; rfl)) ?_
      walk_at "d"
      exact q M .refl
    | say =>
      obtain ⟨k, rfl⟩ := num_of (ite_none hf)
      simp only [Tm.enc]
      walk_at "d"
      exact q M .refl
  | u3 a b c =>
    obtain ⟨k, rfl⟩ := num_of (ite_none hf)
    simp only [Tm.enc]
    walk_at "d"
    refine rv_eqI ?_
    walk_at "d"
    have q' := q M .refl
    simp only [made] at q'
    refine br (fun e => ?_) (fun e => ?_)
    · walk_at "d"
      rw [if_pos (of_decide_eq_true e)] at q'
      exact q'
    · walk_at "d"
      rw [if_neg (of_decide_eq_false e)] at q'
      exact q'
  | u2 w a b =>
    cases w with
    | pair => cases hre
    | call => cases hc
    | put =>
      obtain ⟨k, rfl⟩ := at_of (ite_none hf)
      have hw' : (decide (k < bs.length) && b.wf bs.length 0) = true := hw
      rw [Bool.and_eq_true] at hw'
      have hk : k < bs.length := of_decide_eq_true hw'.1
      have e2 : ((k : Int) + 1) = ((k + 1 : Nat) : Int) := by omega
      simp only [Tm.enc]
      walk_at "d"
      rw [cut_to]
      refine rv_catT (by simp; omega) ?_
      walk_at "d"
      rw [e2, cut_from]
      refine rv_catT (by simp; omega) ?_
      walk_at "d"
      rw [set_cut bs k hk b]
      exact q M .refl
    | plus =>
      obtain ⟨x, y, rfl, rfl⟩ := arith_of hf
      have hw' : (decide (-999999999 ≤ x ∧ x ≤ 999999999) && decide (-999999999 ≤ y ∧ y ≤ 999999999)) = true := hw
      rw [Bool.and_eq_true] at hw'
      have hx := of_decide_eq_true hw'.1
      have hy := of_decide_eq_true hw'.2
      simp only [Tm.enc]
      walk_at "d"
      refine ⟨.plus, x, y, rfl, rfl, hx.1, hx.2, hy.1, hy.2, fun M2 h2 => ?_⟩
      walk_at "d"
      exact q M2 h2
    | minus =>
      obtain ⟨x, y, rfl, rfl⟩ := arith_of hf
      have hw' : (decide (-999999999 ≤ x ∧ x ≤ 999999999) && decide (-999999999 ≤ y ∧ y ≤ 999999999)) = true := hw
      rw [Bool.and_eq_true] at hw'
      have hx := of_decide_eq_true hw'.1
      have hy := of_decide_eq_true hw'.2
      simp only [Tm.enc]
      walk_at "d"
      refine ⟨.minus, x, y, rfl, rfl, hx.1, hx.2, hy.1, hy.2, fun M2 h2 => ?_⟩
      walk_at "d"
      exact q M2 h2
    | times =>
      obtain ⟨x, y, rfl, rfl⟩ := arith_of hf
      have hw' : (decide (-999999999 ≤ x ∧ x ≤ 999999999) && decide (-999999999 ≤ y ∧ y ≤ 999999999)) = true := hw
      rw [Bool.and_eq_true] at hw'
      have hx := of_decide_eq_true hw'.1
      have hy := of_decide_eq_true hw'.2
      simp only [Tm.enc]
      walk_at "d"
      refine ⟨.times, x, y, rfl, rfl, hx.1, hx.2, hy.1, hy.2, fun M2 h2 => ?_⟩
      walk_at "d"
      exact q M2 h2
  | _ => cases hre
end
end FS
set_option maxHeartbeats 4000000
namespace FS
open PySem PySem.Spec PyProof.Rows L2
local macro_rules | `(tactic| walk_at "t") => `(tactic| exact use_hole (by assumption))
local macro_rules | `(tactic| walk_at "t") => `(tactic| exact use_at (by assumption))
local macro_rules | `(tactic| walk_at "t") => `(tactic| exact use_name (by assumption))
local macro_rules | `(tactic| walk_at "t") => `(tactic| exact use_num (by assumption))
local macro_rules | `(tactic| walk_at "t") => `(tactic| exact leaf_leaves (by assumption))
local macro_rules | `(tactic| walk_at "t") => `(tactic| exact use_leaves (by assumption))
local macro_rules | `(tactic| walk_at "t") => `(tactic| assumption)
local macro_rules | `(tactic| walk_at "t") => `(tactic| decide +kernel)
local macro_rules | `(tactic| walk_at "t") => `(tactic| rfl)
local macro_rules | `(tactic| walk_at "d1") => `(tactic| (with_reducible refine ⟨_, _, _, rfl, ?_⟩))
local macro_rules | `(tactic| walk_at "d1") => `(tactic| (with_reducible refine ⟨_, _, rfl, ?_⟩))
local macro_rules | `(tactic| walk_at "d1") => `(tactic| ((with_reducible refine rv_fdiv ?h1 ?_); (case h1 => exact ⟨by decide, by decide⟩)))
local macro_rules | `(tactic| walk_at "d1") => `(tactic| ((with_reducible refine rv_mod ?h1 ?_); (case h1 => (show (0 : Int) < _; decide))))
local macro_rules | `(tactic| walk_at "d1") => `(tactic| (with_reducible refine we_call (dxs := [.int 0]) (fun H => .cons (.int 0) .nil) ?_))
local macro_rules | `(tactic| walk_at "d1") => `(tactic| ((with_reducible refine' we_c ?h1 ?_); (case h1 => assumption)))
local macro_rules | `(tactic| walk_at "d1") => `(tactic| (with_reducible refine wt_yes ?_))
local macro_rules | `(tactic| walk_at "d1") => `(tactic| (with_reducible refine wg_name ?_))
local macro_rules | `(tactic| walk_at "d1") => `(tactic| (with_reducible refine rv_ix3 ?_))
local macro_rules | `(tactic| walk_at "d1") => `(tactic| (with_reducible refine rv_ix2 ?_))
local macro_rules | `(tactic| walk_at "d1") => `(tactic| (with_reducible refine rv_notN ?_))
local macro_rules | `(tactic| walk_at "d1") => `(tactic| (with_reducible refine rv_isN ?_))
local macro_rules | `(tactic| walk_at "d1") => `(tactic| (with_reducible refine rv_neS ?_))
local macro_rules | `(tactic| walk_at "d1") => `(tactic| (with_reducible refine rv_ge ?_))
local macro_rules | `(tactic| walk_at "d1") => `(tactic| (with_reducible refine rv_gt ?_))
local macro_rules | `(tactic| walk_at "d1") => `(tactic| (with_reducible refine rv_le ?_))
local macro_rules | `(tactic| walk_at "d1") => `(tactic| (with_reducible refine rv_sub ?_))
local macro_rules | `(tactic| walk_at "d1") => `(tactic| (with_reducible refine wo_some ?_))
local macro_rules | `(tactic| walk_at "d1") => `(tactic| (with_reducible refine wo_none ?_))
local macro_rules | `(tactic| walk_at "d1") => `(tactic| (with_reducible refine we_then ?_))
local macro_rules | `(tactic| walk_at "d1") => `(tactic| (with_reducible refine we_un ?_))
local macro_rules | `(tactic| walk_at "d1") => `(tactic| (with_reducible refine we_chain ?_))
local macro_rules | `(tactic| walk_at "d1") => `(tactic| (with_reducible refine we_if ?_))
local macro_rules | `(tactic| walk_at "d1") => `(tactic| (with_reducible refine we_not ?_))
local macro_rules | `(tactic| walk_at "d1") => `(tactic| (with_reducible refine we_or ?_))
local macro_rules | `(tactic| walk_at "d1") => `(tactic| (with_reducible refine we_and ?_))
local macro_rules | `(tactic| walk_at "d1") => `(tactic| (with_reducible refine wt_not ?_))
local macro_rules | `(tactic| walk_at "d1") => `(tactic| (with_reducible refine wt_B ?_))
local macro_rules | `(tactic| walk_at "d1") => `(tactic| (with_reducible refine we_slT ?_))
local macro_rules | `(tactic| walk_at "d1") => `(tactic| (with_reducible refine we_lst ?_))
local macro_rules | `(tactic| walk_at "d1") => `(tactic| (with_reducible refine we_ty ?_))
local macro_rules | `(tactic| walk_at "d1") => `(tactic| (with_reducible refine we_non ?_))
local macro_rules | `(tactic| walk_at "d1") => `(tactic| (with_reducible refine we_bl ?_))
local macro_rules | `(tactic| walk_at "d1") => `(tactic| (with_reducible refine ws_asg ?_))
local macro_rules | `(tactic| walk_at "d1") => `(tactic| (with_reducible refine ws_par3 ?_))
local macro_rules | `(tactic| walk_at "d1") => `(tactic| (with_reducible refine ws_par ?_))
local macro_rules | `(tactic| walk_at "d1") => `(tactic| (with_reducible refine ws_drop ?_))
local macro_rules | `(tactic| walk_at "d1") => `(tactic| (with_reducible refine ru_neg ?_))
local macro_rules | `(tactic| walk_at "d1") => `(tactic| (with_reducible refine rl_isi_bb ?_))
local macro_rules | `(tactic| walk_at "d1") => `(tactic| (with_reducible refine rl_isi_bt ?_))
local macro_rules | `(tactic| walk_at "d1") => `(tactic| (with_reducible refine rl_isi_sb ?_))
local macro_rules | `(tactic| walk_at "d1") => `(tactic| (with_reducible refine rl_isi_st ?_))
local macro_rules | `(tactic| walk_at "d1") => `(tactic| (with_reducible refine rl_isi_is ?_))
local macro_rules | `(tactic| walk_at "d1") => `(tactic| (with_reducible refine rl_isi_it ?_))
local macro_rules | `(tactic| walk_at "d1") => `(tactic| (with_reducible refine rl_isi_ib ?_))
local macro_rules | `(tactic| walk_at "d1") => `(tactic| (with_reducible refine rl_isi_ii ?_))
local macro_rules | `(tactic| walk_at "d1") => `(tactic| (with_reducible refine rl_isi_ss ?_))
local macro_rules | `(tactic| walk_at "d1") => `(tactic| (with_reducible refine rl_isi_tt ?_))
local macro_rules | `(tactic| walk_at "d1") => `(tactic| (with_reducible refine rl_abs ?_))
local macro_rules | `(tactic| walk_at "d1") => `(tactic| (with_reducible refine rl_int ?_))
local macro_rules | `(tactic| walk_at "d1") => `(tactic| (with_reducible refine wt_or ?_))
local macro_rules | `(tactic| walk_at "d1") => `(tactic| (with_reducible refine rv_lt ?_))
local macro_rules | `(tactic| walk_at "d1") => `(tactic| (with_reducible refine rv_add ?_))
local macro_rules | `(tactic| walk_at "d1") => `(tactic| (with_reducible refine we_cb ?_))
local macro_rules | `(tactic| walk_at "d1") => `(tactic| (with_reducible refine ws_set ?_))
local macro_rules | `(tactic| walk_at "d1") => `(tactic| (with_reducible refine rv_ix1 ?_))
local macro_rules | `(tactic| walk_at "d1") => `(tactic| (with_reducible refine wt_and ?_))
local macro_rules | `(tactic| walk_at "d1") => `(tactic| (with_reducible refine we_call0 ?_))
local macro_rules | `(tactic| walk_at "d1") => `(tactic| ((with_reducible refine br_t ?h1 ?_); (case h1 => walk_at "t")))
local macro_rules | `(tactic| walk_at "d1") => `(tactic| ((with_reducible refine rv_inT ?a1 ?a2 ?_); (case a1 => rfl); (case a2 => first | rfl | decide +kernel)))
local macro_rules | `(tactic| walk_at "d1") => `(tactic| ((with_reducible refine len_and ?h1 ?_); (case h1 => first | decide | (simp; done) | (simp; omega))))
local macro_rules | `(tactic| walk_at "d1") => `(tactic| ((with_reducible refine br_f ?h1 ?_); (case h1 => walk_at "t")))
local macro_rules | `(tactic| walk_at "d1") => `(tactic| (with_reducible refine ⟨_, rfl, ?_⟩))
local macro_rules | `(tactic| walk_at "d1") => `(tactic| (with_reducible refine ws_ret ?_))
local macro_rules | `(tactic| walk_at "d1") => `(tactic| (with_reducible refine rv_eqS ?_))
local macro_rules | `(tactic| walk_at "d1") => `(tactic| (with_reducible refine we_tup ?_))
local macro_rules | `(tactic| walk_at "d1") => `(tactic| (with_reducible refine rv_ix0 ?_))
local macro_rules | `(tactic| walk_at "d1") => `(tactic| (with_reducible refine ws_next ?_))
local macro_rules | `(tactic| walk_at "d1") => `(tactic| (with_reducible refine ws_if ?_))
local macro_rules | `(tactic| walk_at "d1") => `(tactic| (with_reducible refine wt_test ?_))
local macro_rules | `(tactic| walk_at "d1") => `(tactic| (with_reducible refine ws_seq ?_))
local macro_rules | `(tactic| walk_at "d1") => `(tactic| (with_reducible refine wa_nil ?_))
local macro_rules | `(tactic| walk_at "d1") => `(tactic| (with_reducible refine we_int ?_))
local macro_rules | `(tactic| walk_at "d1") => `(tactic| (with_reducible refine we_str ?_))
local macro_rules | `(tactic| walk_at "d1") => `(tactic| (with_reducible refine we_op ?_))
local macro_rules | `(tactic| walk_at "d1") => `(tactic| ((with_reducible refine' we_var ?h1 ?_); (case h1 => exact rfl)))
local macro_rules | `(tactic| walk_at "d1") => `(tactic| (with_reducible refine wa_cons ?_))
local macro_rules | `(tactic| walk_at "d") => `(tactic| repeat (walk_at "d1"))
theorem sc_called : FnScope ["part", "room", "depth", "words", "function", "given", "values", "value"] ["part", "room", "depth"] (defScope s_called) := ⟨rfl, rfl, rfl, by decide +kernel, rfl, by decide +kernel, by decide +kernel⟩
theorem sc_next_by : FnScope ["boxes", "term", "outcome", "place", "part", "words", "room", "result", "said"] ["boxes", "term"] (defScope s_next_by) := ⟨rfl, rfl, rfl, by decide +kernel, rfl, by decide +kernel, by decide +kernel⟩
theorem sc_next_tidied : FnScope ["boxes", "term", "outcome", "said"] ["boxes", "term"] (defScope s_next_tidied) := ⟨rfl, rfl, rfl, by decide +kernel, rfl, by decide +kernel, by decide +kernel⟩
/-- what a function is called with, what it says -/
def callArgs : Tm → Tm → List Tm
  | .u1 .fn _, g => [g]
  | f, g => [g, f]
def callBody : Tm → Tm
  | .u1 _ b => b
  | t => t
def S_called (n : Nat) : SpX := fun xs M Q B => ∃ (f g : Tm) (m : Nat) (room depth : Int), xs = [(Tm.u2 .call f g).enc, .int room, .int depth] ∧ f.isFn = true ∧ (Tm.u2 .call f g).wf m 0 = true ∧ f.dep ≤ n ∧ g.dep ≤ n ∧
  ∀ M', MEx M M' → (Q ((callBody f).putIn (callArgs f g) 0).enc M' ∧ ((room < ((callBody f).putIn (callArgs f g) 0).len ∨ depth < ((callBody f).putIn (callArgs f g) 0).dep) → B M'))
section
variable {P : Program} {w : World} {K : PySem.W.Frag} {mg : Str → Option Value} {base : Heap} {C : Addr}
theorem call_in {f g : Tm} {m : Nat} (hf : f.isFn = true) (hw : (Tm.u2 .call f g).wf m 0 = true) : (callBody f).wf m (0 + (callArgs f g).length) = true ∧ (∀ a ∈ callArgs f g, a.wf m 0 = true ∧ (a.dep ≤ f.dep ∨ a.dep ≤ g.dep)) ∧ (callBody f).dep ≤ f.dep ∧ (made [] (.u2 .call f g)).2.1 = (callBody f).putIn (callArgs f g) 0 := by
  have hw' : (f.wf m 0 && g.wf m 0) = true := hw
  rw [Bool.and_eq_true] at hw'
  obtain ⟨b, rfl | rfl⟩ := fn_of hf
  · exact ⟨hw'.1, fun a ha => by rw [List.mem_singleton.mp ha]; exact ⟨hw'.2, .inr (Nat.le_refl _)⟩, by simp [callBody, Tm.dep], rfl⟩
  · refine ⟨hw'.1, fun a ha => ?_, by simp [callBody, Tm.dep], rfl⟩
    rcases List.mem_cons.mp ha with rfl | ha
    · exact ⟨hw'.2, .inr (Nat.le_refl _)⟩
    · rw [List.mem_singleton.mp ha]
      exact ⟨hw'.1, .inl (Nat.le_refl _)⟩
theorem cal_called (G : Glb K mg) (TE : ExcT K mg "TooGreat" C) {L n : Nat} (c_words_of : Cal P w K mg base L "words_of" S_words []) (c_length_by : Cal P w K mg base L "length_by" (S_len n) []) (c_depth_by : Cal P w K mg base L "depth_by" (S_dep n) [])
    (c_put_length : CalD P w K mg base L "put_length" (S_putl n) (.int 0)) (c_put_depth : CalD P w K mg base L "put_depth" (S_putd n) (.int 0)) (c_put_in_by : CalD P w K mg base L "put_in_by" (S_put n n) (.int 0)) : CalX P w K mg base C (L + 1) "called" (S_called n) := by
  refine cal_mkX (ps := ["part", "room", "depth"]) G.d_called (fun _ _ _ _ _ _ us hl => match us, hl with | [_, _, _], _ => rfl) sc_called (fun xs M Q B h => by obtain ⟨f, g, m, r, d, rfl, _⟩ := h; rfl) fun f cdv A outer s H E hr => ⟨_, (pss_cons (ps_set (i := 3) sc_called.nd rfl (.inr rfl) (pe_cal c_words_of hr (by omega) ⟨rfl, rfl, rfl, rfl, rfl⟩ rfl (pa_cons (pe_tup pa_nil) pa_nil)))
      (pss_cons (ps_par (i := 4) (j := 5) (by rfl) sc_called.nd rfl rfl (by decide) rfl rfl (pa_cons (pe_ix (ix_tupK (K := K) rfl) (pv 0) pe_int (fun _ _ => rfl)) (pa_cons (pe_ix (ix_tupK (K := K) rfl) (pv 0) pe_int (fun _ _ => rfl)) pa_nil)) (by rfl))
      (pss_cons (ps_set (i := 6) sc_called.nd rfl (.inl rfl) (pe_ifExp (pt_cmpR op_eq (pe_ix (ix_tupK (K := K) rfl) (pv 4) pe_int (fun _ _ => rfl)) pe_str (nomark _)) (pe_tup (pa_cons (pv 5) pa_nil)) (pe_tup (pa_cons (pv 5) (pa_cons (pv 4) pa_nil)))))
      (pss_cons (ps_if (pt_cmpR op_gt (pe_cal c_put_length.dft hr (by omega) ⟨rfl, rfl, rfl, rfl, rfl⟩ rfl (pa_cons (pv 3) (pa_cons (pe_ix (ix_tupK (K := K) rfl) (pv 4) pe_int (fun _ _ => rfl)) (pa_cons (pe_lc (own := [("value", 7)]) (by rfl) sc_called.nd (pi_tupK (K := K) rfl (pv 6)) (blkOk_by (N := ["part", "room", "depth", "words", "function", "given", "values", "value"]) (sc := defScope s_called) (by decide +kernel)) (fun _ _ _ _ _ => (pg_name (i := 7) sc_called.nd rfl (.inl rfl))) (fun _ _ _ _ _ => pts_nil) (fun _ _ _ _ _ => (pe_cal c_length_by hr (by omega) ⟨rfl, rfl, rfl, rfl, rfl⟩ rfl (pa_cons (pv 3) (pa_cons (pv 7) pa_nil))))) pa_nil)))) (pv 1) (nomark _))
        (pss_one (ps_raise rfl (takes_of rfl rfl rfl rfl) (pmk_own0 PySem.F.excBase_ValueError TE.x' TE.g TE.k (raises_own TE.b TE.t) (by exact rfl))))
        pss_nil)
      (pss_cons (ps_if (pt_cmpR op_gt (pe_cal c_put_depth.dft hr (by omega) ⟨rfl, rfl, rfl, rfl, rfl⟩ rfl (pa_cons (pv 3) (pa_cons (pe_ix (ix_tupK (K := K) rfl) (pv 4) pe_int (fun _ _ => rfl)) (pa_cons (pe_lc (own := [("value", 7)]) (by rfl) sc_called.nd (pi_tupK (K := K) rfl (pv 6)) (blkOk_by (N := ["part", "room", "depth", "words", "function", "given", "values", "value"]) (sc := defScope s_called) (by decide +kernel)) (fun _ _ _ _ _ => (pg_name (i := 7) sc_called.nd rfl (.inl rfl))) (fun _ _ _ _ _ => pts_nil) (fun _ _ _ _ _ => (pe_cal c_depth_by hr (by omega) ⟨rfl, rfl, rfl, rfl, rfl⟩ rfl (pa_cons (pv 7) pa_nil)))) pa_nil)))) (pv 2) (nomark _))
        (pss_one (ps_raise rfl (takes_of rfl rfl rfl rfl) (pmk_own0 PySem.F.excBase_ValueError TE.x' TE.g TE.k (raises_own TE.b TE.t) (by exact rfl))))
        pss_nil)
      (pss_one (ps_ret (pe_cal c_put_in_by.dft hr (by omega) ⟨rfl, rfl, rfl, rfl, rfl⟩ rfl (pa_cons (pv 3) (pa_cons (pe_ix (ix_tupK (K := K) rfl) (pv 4) pe_int (fun _ _ => rfl)) (pa_cons (pv 6) pa_nil))))))))))), fun xs M Q B h hE => ?_⟩
  obtain ⟨fn, g, m, room, depth, rfl, hf, hw, hd1, hd2, q⟩ := h
  obtain ⟨hb1, hb2, hb3, _⟩ := call_in hf hw
  have hsm : (callArgs fn g).length ≤ 1000000 := by
    obtain ⟨b, rfl | rfl⟩ := fn_of hf <;> simp [callArgs]
  have hda : ∀ a ∈ callArgs fn g, a.dep ≤ n := fun a ha => (hb2 a ha).2.elim (fun h => Nat.le_trans h hd1) fun h => Nat.le_trans h hd2
  simp only [Tm.enc]
  refine wsx_seqW ?_
  walk_at "d"
  refine ⟨rfl, fun M2 h2 => ?_⟩
  refine wsx_seqW ?_
  walk_at "d"
  refine wsx_seqW ?_
  rcases fn_of hf with ⟨b, rfl | rfl⟩
  all_goals
    simp only [Tm.enc]
    walk_at "d"
    refine wsx_seq (wsx_if ?_)
    walk_at "d"
    refine we_lcU (callArgs _ g) Tm.enc (fun a => .int (a.len : Int)) rfl ?_ hsm ?_ ?_
    · walk_at "d"
      exact ⟨rfl, .refl⟩
    · intro a ha M3 h3
      walk_at "d"
      exact ⟨a, rfl, hda a ha, fun M' h => ⟨h, rfl⟩⟩
    intro p M3 h3 hp
    walk_at "d"
    refine ⟨b, callArgs _ g, 0, p, rfl, hp, Nat.le_trans hb3 hd1, fun M4 h4 => ?_⟩
    walk_at "d"
    refine ⟨fun e => wsx_raise hE ((q M4 ((h2.trans h3).trans h4)).2 (.inl (of_decide_eq_true e))), fun e => wsx_of (ws_next ?_)⟩
    refine wsx_seq (wsx_if ?_)
    walk_at "d"
    refine we_lcU (callArgs _ g) Tm.enc (fun a => .int (a.dep : Int)) rfl ?_ hsm ?_ ?_
    · walk_at "d"
      exact ⟨rfl, .refl⟩
    · intro a ha M5 h5
      walk_at "d"
      exact ⟨a, rfl, hda a ha, fun M' h => ⟨h, rfl⟩⟩
    intro r M5 h5 hr
    walk_at "d"
    refine ⟨b, callArgs _ g, 0, r, rfl, hr, Nat.le_trans hb3 hd1, fun M6 h6 => ?_⟩
    walk_at "d"
    have mx : MEx M M6 := (((h2.trans h3).trans h4).trans h5).trans h6
    refine ⟨fun e => wsx_raise hE ((q M6 mx).2 (.inr (of_decide_eq_true e))), fun e => wsx_of (ws_next ?_)⟩
    refine wsx_of ?_
    walk_at "d"
    exact ⟨b, callArgs _ g, 0, rfl, wf_clX hb1, fun a ha => ⟨wf_clX (hb2 a ha).1, hda a ha⟩, Nat.le_trans hb3 hd1, fun M7 h7 => (q M7 (mx.trans h7)).1⟩
def S_next (n : Nat) : SpX := fun xs M Q B => ∃ (bs : List Tm) (t : Tm), xs = [.tup (bs.map Tm.enc), t.enc] ∧ Wf bs t ∧ t.dep ≤ 60 ∧ t.dep ≤ n ∧ t.len ≤ 1500 ∧ bs.length ≤ 90000 ∧
  ∀ M', MEx M M' → (outcome t ≠ "step" → Q (.tup [.str (outcome t), .tup (bs.map Tm.enc), t.enc, .tup []]) M') ∧
    (outcome t = "step" → Q (.tup [.str (outcome t), .tup ((stepP bs t).1.map Tm.enc), (stepP bs t).2.1.enc, .tup ((stepP bs t).2.2.map .int)]) M' ∧ (¬ Fit [] (stepP bs t).2.1 → B M'))
theorem call_of {u : Tm} (h : u.isCall = true) : ∃ f g, u = .u2 .call f g := by
  cases u with
  | u2 w a b => cases w <;> first | exact ⟨a, b, rfl⟩ | cases h
  | _ => cases h
theorem call_eq {u : Tm} (h : u.redex = true) : decide (u.word = "call") = u.isCall := by
  have e1 : ∀ w : W1, decide (w.s = "call") = false := fun w => by cases w <;> decide +kernel
  have e2 : ∀ w : W2, decide (w.s = "call") = (match w with | .call => true | _ => false) := fun w => by cases w <;> decide +kernel
  cases u with
  | u1 w a => exact e1 w
  | u2 w a b => exact (e2 w).trans (by cases w <;> rfl)
  | u3 a b c => exact (by decide +kernel : decide (("test" : Str) = "call") = false)
  | _ => cases h
theorem say_eq {u : Tm} (h : u.redex = true) (hf : u.fault = none) (bs : List Tm) : (decide (u.word = "say") = true ∧ ∃ k, u = .u1 .say (.num k)) ∨ (decide (u.word = "say") = false ∧ (made bs u).2.2 = []) := by
  have e1 : ∀ w : W1, decide (w.s = "say") = (match w with | .say => true | _ => false) := fun w => by cases w <;> decide +kernel
  have e2 : ∀ w : W2, decide (w.s = "say") = false := fun w => by cases w <;> decide +kernel
  cases u with
  | u1 w a =>
    cases w with
    | say =>
      obtain ⟨k, rfl⟩ := num_of (ite_none hf)
      exact .inl ⟨e1 .say, k, rfl⟩
    | fn => cases h
    | again => cases h
    | first =>
      obtain ⟨x, y, rfl⟩ := pair_of (ite_none hf)
      exact .inr ⟨e1 .first, rfl⟩
    | second =>
      obtain ⟨x, y, rfl⟩ := pair_of (ite_none hf)
      exact .inr ⟨e1 .second, rfl⟩
    | look =>
      obtain ⟨k, rfl⟩ := at_of (ite_none hf)
      exact .inr ⟨e1 .look, rfl⟩
    | box => exact .inr ⟨e1 .box, rfl⟩
  | u2 w a b =>
    refine .inr ⟨e2 w, ?_⟩
    cases w with
    | pair => cases h
    | call =>
      obtain ⟨f, rfl | rfl⟩ := fn_of (ite_none hf) <;> rfl
    | put =>
      obtain ⟨k, rfl⟩ := at_of (ite_none hf)
      rfl
    | plus =>
      obtain ⟨x, y, rfl, rfl⟩ := arith_of hf
      rfl
    | minus =>
      obtain ⟨x, y, rfl, rfl⟩ := arith_of hf
      rfl
    | times =>
      obtain ⟨x, y, rfl, rfl⟩ := arith_of hf
      rfl
  | u3 a b c =>
    obtain ⟨k, rfl⟩ := num_of (ite_none hf)
    exact .inr ⟨(by decide +kernel : decide (("test" : Str) = "say") = false), rfl⟩
  | _ => cases h
theorem cal_next_by (G : Glb K mg) (TE : ExcT K mg "TooGreat" C) {L n : Nat} (c_outcome_by : Cal P w K mg base L "outcome_by" (S_out n) []) (c_place_by : Cal P w K mg base L "place_by" (S_place n) []) (c_part_by : Cal P w K mg base L "part_by" S_part []) (c_words_of : Cal P w K mg base L "words_of" S_words []) (c_length_by : Cal P w K mg base L "length_by" (S_len n) [])
    (c_called : CalX P w K mg base C L "called" (S_called n)) (c_made : Cal P w K mg base L "made" S_made []) (c_replaced_by : Cal P w K mg base L "replaced_by" (S_repl 60) []) : CalX P w K mg base C (L + 1) "next_by" (S_next n) := by
  refine cal_mkX (ps := ["boxes", "term"]) G.d_next_by (fun _ _ _ _ _ _ us hl => match us, hl with | [_, _], _ => rfl) sc_next_by (fun xs M Q B h => by obtain ⟨bs, t, rfl, _⟩ := h; rfl) fun f cdv A outer s H E hr => ⟨_, (pss_cons (ps_set (i := 2) sc_next_by.nd rfl (.inl rfl) (pe_cal c_outcome_by hr (by omega) ⟨rfl, rfl, rfl, rfl, rfl⟩ rfl (pa_cons (pv 1) pa_nil)))
      (pss_cons (ps_if (pt_cmpR op_ne (pv 2) pe_str (nomark _))
        (pss_one (ps_ret (pe_tup (pa_cons (pv 2) (pa_cons (pv 0) (pa_cons (pv 1) (pa_cons (pe_tup pa_nil) pa_nil)))))))
        pss_nil)
      (pss_cons (ps_set (i := 3) sc_next_by.nd rfl (.inl rfl) (pe_cal c_place_by hr (by omega) ⟨rfl, rfl, rfl, rfl, rfl⟩ rfl (pa_cons (pv 1) pa_nil)))
      (pss_cons (ps_set (i := 4) sc_next_by.nd rfl (.inl rfl) (pe_cal c_part_by hr (by omega) ⟨rfl, rfl, rfl, rfl, rfl⟩ rfl (pa_cons (pv 1) (pa_cons (pv 3) pa_nil))))
      (pss_cons (ps_if (pt_cmpR op_eq (pe_ix (ix_tupK (K := K) rfl) (pv 4) pe_int (fun _ _ => rfl)) pe_str (nomark _))
        (pss_cons (ps_set (i := 5) sc_next_by.nd rfl (.inl rfl) (pe_cal c_words_of hr (by omega) ⟨rfl, rfl, rfl, rfl, rfl⟩ rfl (pa_cons (pe_tup pa_nil) pa_nil)))
        (pss_cons (ps_set (i := 6) sc_next_by.nd rfl (.inl rfl) (pe_op op_add (pe_op op_sub (pe_k rfl G.k_MOST_LENGTH rfl) (pe_cal c_length_by hr (by omega) ⟨rfl, rfl, rfl, rfl, rfl⟩ rfl (pa_cons (pv 5) (pa_cons (pv 1) pa_nil)))) (pe_cal c_length_by hr (by omega) ⟨rfl, rfl, rfl, rfl, rfl⟩ rfl (pa_cons (pv 5) (pa_cons (pv 4) pa_nil)))))
        (pss_one (ps_set (i := 7) sc_next_by.nd rfl (.inl rfl) (pe_calX c_called hr (by omega) ⟨rfl, rfl, rfl, rfl, rfl⟩ rfl (takes_of rfl rfl rfl rfl) (pa_cons (pv 4) (pa_cons (pv 6) (pa_cons (pe_op op_sub (pe_k rfl G.k_MOST_DEPTH rfl) (pe_callB (call_lenK (K := K) rfl) (by rfl) G.b_len PySem.boot_len (pa_cons (pv 3) pa_nil))) pa_nil))))))))
        (pss_one (ps_asg (pe_cal c_made hr (by omega) ⟨rfl, rfl, rfl, rfl, rfl⟩ rfl (pa_cons (pv 0) (pa_cons (pv 4) pa_nil))) (pg_tupK (K := K) (n := 2) rfl rfl (pgs_cons (pg_name (i := 0) sc_next_by.nd rfl (.inl rfl)) (pgs_cons (pg_name (i := 7) sc_next_by.nd rfl (.inl rfl)) pgs_nil)) (by rfl) (by rfl)))))
      (pss_cons (ps_set (i := 8) sc_next_by.nd rfl (.inl rfl) (pe_ifExp (pt_cmpR op_eq (pe_ix (ix_tupK (K := K) rfl) (pv 4) pe_int (fun _ _ => rfl)) pe_str (nomark _)) (pe_tup (pa_cons (pe_ix (ix_tupK (K := K) rfl) (pe_ix (ix_tupK (K := K) rfl) (pv 4) pe_int (fun _ _ => rfl)) pe_int (fun _ _ => rfl)) pa_nil)) (pe_tup pa_nil)))
      (pss_one (ps_ret (pe_tup (pa_cons (pv 2) (pa_cons (pv 0) (pa_cons (pe_cal c_replaced_by hr (by omega) ⟨rfl, rfl, rfl, rfl, rfl⟩ rfl (pa_cons (pv 1) (pa_cons (pv 3) (pa_cons (pv 7) pa_nil)))) (pa_cons (pv 8) pa_nil))))))))))))), fun xs M Q B h hE => ?_⟩
  obtain ⟨bs, t, rfl, hw, hd6, hd, hl, hbl, q⟩ := h
  refine wsx_seqW ?_
  walk_at "d"
  refine ⟨t, bs.length, rfl, hw.tm, hd, fun M2 h2 => ?_⟩
  refine wsx_seq (wsx_if ?_)
  walk_at "d"
  refine ⟨fun e => ?_, fun e => ?_⟩
  · refine wsx_of ?_
    walk_at "d"
    exact (q M2 h2).1 (by simpa using e)
  have ho : outcome t = "step" := by simpa using e
  obtain ⟨pl, u, h1, h3, h4, h5, h6, h7, h8⟩ := step_at hw.tm ho
  have hsz := fun r => repl_size (r := r) t h3
  refine wsx_of (ws_next ?_)
  refine wsx_seqW ?_
  walk_at "d"
  refine ⟨t, rfl, wf_clX hw.tm, hd, fun M3 h9 => ?_⟩
  rw [h1]
  show WSX _ _ _ _ _ _
  refine wsx_seqW ?_
  walk_at "d"
  refine ⟨t, pl, u, rfl, h3, fun M4 h10 => ?_⟩
  show WSX _ _ _ _ _ _
  have M8 := made_ok hw.bx h5 h4 h6 h7
  have hst : stepP bs t = ((made bs u).1, t.repl pl (made bs u).2.1, (made bs u).2.2) := by simp only [stepP, h1, h3]
  have hpl : pl.length < 60 := by have := Tm.place_len t h1; omega
  rw [hst] at q
  obtain ⟨ru, er⟩ := enc_head u
  refine wsx_seq (wsx_if (wt_test (we_op (we_word (t := u) rfl ?_))))
  walk_at "d"
  rw [call_eq h5]
  cases hcall : u.isCall with
  | true =>
    refine ⟨fun _ => ?_, fun e => (by cases e)⟩
    obtain ⟨fn, g, rfl⟩ := call_of hcall
    have hf : fn.isFn = true := ite_none h4
    have hmade : (made bs (.u2 .call fn g)).2.1 = (callBody fn).putIn (callArgs fn g) 0 ∧ (made bs (.u2 .call fn g)).1 = bs ∧ (made bs (.u2 .call fn g)).2.2 = [] := by
      obtain ⟨b, rfl | rfl⟩ := fn_of hf <;> exact ⟨rfl, rfl, rfl⟩
    rw [hmade.1, hmade.2.1, hmade.2.2] at q
    have hdu := (hsz (.num 0)).2.2.2
    refine wsx_seqW ?_
    walk_at "d"
    refine ⟨rfl, fun M5 h11 => ?_⟩
    refine wsx_seqW ?_
    walk_at "d"
    refine ⟨t, rfl, hd, fun M6 h12 => ?_⟩
    walk_at "d"
    refine ⟨_, rfl, by simp only [Tm.dep] at hdu ⊢; omega, fun M7 h13 => ?_⟩
    walk_at "d"
    refine wsx_asg hE ?_
    simp only [Tm.enc]
    walk_at "d"
    simp only [plO, plD]
    refine rl_lenT ?_
    walk_at "d"
    have mx : MEx M M7 := (((((h2.trans h9).trans h10).trans h11).trans h12).trans h13)
    refine ⟨fn, g, bs.length, _, _, rfl, hf, h6, by simp only [Tm.dep] at hdu; omega, by simp only [Tm.dep] at hdu; omega, fun M9 h14 => ⟨?_, fun hgt => ?_⟩⟩
    · refine wg_name ?_
      refine wsx_seqW ?_
      walk_at "d"
      refine wsx_of ?_
      walk_at "d"
      exact ⟨t, pl, _, _, rfl, hpl, h3, fun M10 h15 => by
        walk_at "d"
        exact ((q M10 ((mx.trans h14).trans h15)).2 ho).1⟩
    · refine ((q M9 (mx.trans h14)).2 ho).2 fun hfit => ?_
      have hz := hsz ((callBody fn).putIn (callArgs fn g) 0)
      have hf1 := hfit.1
      have hf2 : (t.repl pl ((callBody fn).putIn (callArgs fn g) 0)).dep ≤ 60 := hfit.2 _ (List.mem_cons_self ..)
      simp only [lenP, List.map_nil, List.sum_nil] at hf1
      simp only [List.length_map] at hgt
      rcases hgt with hgt | hgt
      · have h8' : (Tm.u2 .call fn g).len ≤ t.len := h8
        omega
      · omega
  | false =>
    refine ⟨fun e => (by cases e), fun _ => ?_⟩
    refine wsx_of ?_
    walk_at "d"
    refine ⟨bs, u, rfl, h5, h4, h6, hcall, by omega, fun M5 h11 => ?_⟩
    refine wg_tup rfl (wgs_cons (wg_name (wgs_cons (wg_name (wgs_nil ?_)))))
    have mx : MEx M M5 := (((h2.trans h9).trans h10).trans h11)
    refine wsx_seqW ?_
    rcases say_eq h5 h4 bs with ⟨es, k, eu⟩ | ⟨es, em⟩
    · subst eu
      simp only [Tm.enc]
      walk_at "d"
      refine wsx_of ?_
      walk_at "d"
      exact ⟨t, pl, _, _, rfl, hpl, h3, fun M10 h15 => by
        walk_at "d"
        exact ((q M10 (mx.trans h15)).2 ho).1⟩
    · rw [em] at q
      refine ws_set (we_if (wt_test (we_op (we_word (t := u) rfl ?_))))
      walk_at "d"
      refine wsx_of ?_
      walk_at "d"
      exact ⟨t, pl, _, _, rfl, hpl, h3, fun M10 h15 => by
        walk_at "d"
        exact ((q M10 (mx.trans h15)).2 ho).1⟩
def S_nt : SpX := fun xs M Q B => ∃ (bs : List Tm) (t : Tm), xs = [.tup (bs.map Tm.enc), t.enc] ∧ Gd bs t ∧
  ∀ M', MEx M M' → (outcome t ≠ "step" → Q (.tup [.str (outcome t), .tup ((tidyB bs t).map Tm.enc), (tidyT bs t).enc, .tup []]) M') ∧
    (outcome t = "step" → (Fit (nextB bs t) (nextT bs t) → Q (.tup [.str (outcome t), .tup ((nextB bs t).map Tm.enc), (nextT bs t).enc, .tup ((stepP bs t).2.2.map .int)]) M') ∧ (¬ Fit (nextB bs t) (nextT bs t) → B M'))
theorem cal_next_tidied (G : Glb K mg) (TE : ExcT K mg "TooGreat" C) {L n : Nat} (hn : 60 ≤ n) (c_words_of : Cal P w K mg base L "words_of" S_words []) (c_next_by : CalX P w K mg base C L "next_by" (S_next n)) (c_are_fitting : Cal P w K mg base L "are_fitting" (S_fit (n + n)) [])
    (c_tidied_by : Cal P w K mg base L "tidied_by" (S_tidy n 1500) []) : CalX P w K mg base C (L + 1) "next_tidied" S_nt := by
  refine cal_mkX (ps := ["boxes", "term"]) G.d_next_tidied (fun _ _ _ _ _ _ us hl => match us, hl with | [_, _], _ => rfl) sc_next_tidied (fun xs M Q B h => by obtain ⟨bs, t, rfl, _⟩ := h; rfl) fun f cdv A outer s H E hr => ⟨_, (pss_cons (ps_asg (pe_calX c_next_by hr (by omega) ⟨rfl, rfl, rfl, rfl, rfl⟩ rfl (takes_of rfl rfl rfl rfl) (pa_cons (pv 0) (pa_cons (pv 1) pa_nil))) (pg_tupK (K := K) (n := 4) rfl rfl (pgs_cons (pg_name (i := 2) sc_next_tidied.nd rfl (.inl rfl)) (pgs_cons (pg_name (i := 0) sc_next_tidied.nd rfl (.inl rfl)) (pgs_cons (pg_name (i := 1) sc_next_tidied.nd rfl (.inl rfl)) (pgs_cons (pg_name (i := 3) sc_next_tidied.nd rfl (.inl rfl)) pgs_nil)))) (by rfl) (by rfl)))
      (pss_cons (ps_if (PW.pt (pw_and (pt_cmpR op_eq (pv 2) pe_str (nomark _)) (pw_and1 (pt_not (pt_val (pe_cal c_are_fitting hr (by omega) ⟨rfl, rfl, rfl, rfl, rfl⟩ rfl (pa_cons (pe_cal c_words_of hr (by omega) ⟨rfl, rfl, rfl, rfl, rfl⟩ rfl (pa_cons (pe_tup pa_nil) pa_nil)) (pa_cons (pe_tup pa_nil) (pa_cons (pv 1) pa_nil)))))))))
        (pss_one (ps_raise rfl (takes_of rfl rfl rfl rfl) (pmk_own0 PySem.F.excBase_ValueError TE.x' TE.g TE.k (raises_own TE.b TE.t) (by exact rfl))))
        pss_nil)
      (pss_cons (ps_asg (pe_cal c_tidied_by hr (by omega) ⟨rfl, rfl, rfl, rfl, rfl⟩ rfl (pa_cons (pv 0) (pa_cons (pv 1) pa_nil))) (pg_tupK (K := K) (n := 2) rfl rfl (pgs_cons (pg_name (i := 0) sc_next_tidied.nd rfl (.inl rfl)) (pgs_cons (pg_name (i := 1) sc_next_tidied.nd rfl (.inl rfl)) pgs_nil)) (by rfl) (by rfl)))
      (pss_cons (ps_if (PW.pt (pw_and (pt_cmpR op_eq (pv 2) pe_str (nomark _)) (pw_and1 (pt_not (pt_val (pe_cal c_are_fitting hr (by omega) ⟨rfl, rfl, rfl, rfl, rfl⟩ rfl (pa_cons (pe_cal c_words_of hr (by omega) ⟨rfl, rfl, rfl, rfl, rfl⟩ rfl (pa_cons (pe_tup pa_nil) pa_nil)) (pa_cons (pv 0) (pa_cons (pv 1) pa_nil)))))))))
        (pss_one (ps_raise rfl (takes_of rfl rfl rfl rfl) (pmk_own0 PySem.F.excBase_ValueError TE.x' TE.g TE.k (raises_own TE.b TE.t) (by exact rfl))))
        pss_nil)
      (pss_one (ps_ret (pe_tup (pa_cons (pv 2) (pa_cons (pv 0) (pa_cons (pv 1) (pa_cons (pv 3) pa_nil))))))))))), fun xs M Q B h hE => ?_⟩
  obtain ⟨bs, t, rfl, hg, q⟩ := h
  have hlen := fit_len hg.fit
  have hdep := hg.fit.2
  have hfew := hg.few
  have hdt := hdep t (List.mem_cons_self ..)
  refine wsx_seq ?_
  refine wsx_asg hE ?_
  walk_at "d"
  refine ⟨bs, t, rfl, hg.wf, hdt, by omega, hlen.1, by omega, fun M2 h2 => ⟨fun ho => ?_, fun ho => ⟨?_, fun hnf => ?_⟩⟩⟩
  · -- no step
    refine wg_tup rfl (wgs_cons (wg_name (wgs_cons (wg_name (wgs_cons (wg_name (wgs_cons (wg_name (wgs_nil ?_)))))))))
    refine wsx_seqW ?_
    refine ws_if (wt_and (wt_test ?_))
    walk_at "d"
    refine br_f (decide_eq_false ho) ?_
    walk_at "d"
    refine wsx_seqW ?_
    walk_at "d"
    refine ⟨bs, t, rfl, hg.wf, ⟨fun b hb => by have := hdep b hb; omega, fun b hb => (List.mem_cons.mp hb).elim (fun e => by rw [e]; exact hlen.1) (hlen.2 b)⟩, by omega, fun M3 h3 => ?_⟩
    unfold encP
    refine wg_tup rfl (wgs_cons (wg_name (wgs_cons (wg_name (wgs_nil ?_)))))
    refine wsx_seqW ?_
    refine ws_if (wt_and (wt_test ?_))
    walk_at "d"
    refine br_f (decide_eq_false ho) ?_
    walk_at "d"
    refine wsx_of ?_
    walk_at "d"
    exact (q M3 (h2.trans h3)).1 ho
  · -- a step
    have hw2 := step_wf hg.wf ho
    obtain ⟨hb2, hl2⟩ := step_box (n := 60) (l := 1500) hg.wf ho hdep (fun b hb => (List.mem_cons.mp hb).elim (fun e => by rw [e]; exact hlen.1) (hlen.2 b))
    refine wg_tup rfl (wgs_cons (wg_name (wgs_cons (wg_name (wgs_cons (wg_name (wgs_cons (wg_name (wgs_nil ?_)))))))))
    have hsd : (stepP bs t).2.1.dep ≤ n + n := step_dep (n := n) hg.wf ho fun b hb => Nat.le_trans (hdep b hb) hn
    refine wsx_seq (wsx_if (wt_and (wt_test ?_)))
    walk_at "d"
    refine br_t (decide_eq_true ho) ?_
    walk_at "d"
    refine ⟨rfl, fun M3 h3 => ?_⟩
    walk_at "d"
    refine ⟨[], (stepP bs t).2.1, rfl, fun b hb => by rw [List.mem_singleton.mp hb]; exact hsd, fun M4 b h4 hb => ?_⟩
    walk_at "d"
    have hsz := tidyT_size (bs := (stepP bs t).1) (t := (stepP bs t).2.1)
    cases b with
    | false =>
      have hnf : ¬ Fit [] (stepP bs t).2.1 := fun hf => by have := hb.mpr hf; cases this
      refine br_t rfl (wsx_raise hE (((q M4 ((h2.trans h3).trans h4)).2 ho).2 fun hf => hnf ?_))
      exact fit_of_tidy hf
    | true =>
      have hfit := hb.mp rfl
      have hf1 : (stepP bs t).2.1.len ≤ 1500 := (fit_len hfit).1
      have hf2 : (stepP bs t).2.1.dep ≤ 60 := hfit.2 _ (List.mem_cons_self ..)
      refine br_f rfl (wsx_of (ws_next ?_))
      refine wsx_seqW ?_
      walk_at "d"
      refine ⟨(stepP bs t).1, (stepP bs t).2.1, rfl, hw2, ⟨fun b hb => (List.mem_cons.mp hb).elim (fun e => by rw [e]; omega) fun h => by have := (hb2 b h).1; omega, fun b hb => (List.mem_cons.mp hb).elim (fun e => by rw [e]; exact hf1) fun h => (hb2 b h).2⟩, by omega, fun M5 h5 => ?_⟩
      unfold encP
      refine wg_tup rfl (wgs_cons (wg_name (wgs_cons (wg_name (wgs_nil ?_)))))
      refine wsx_seq (wsx_if (wt_and (wt_test ?_)))
      walk_at "d"
      refine br_t (decide_eq_true ho) ?_
      walk_at "d"
      refine ⟨rfl, fun M6 h6 => ?_⟩
      walk_at "d"
      refine ⟨nextB bs t, nextT bs t, rfl, fun b hb => ?_, fun M7 b h7 hb => ?_⟩
      · rcases List.mem_cons.mp hb with rfl | h
        · unfold nextT
          rw [hsz.2]
          omega
        · obtain ⟨k, hk, rfl⟩ := List.mem_map.mp h
          rw [renum_dep]
          have := (hb2 _ (bx_mem (met_lt hw2 hk)).2).1
          omega
      walk_at "d"
      have mx : MEx M M7 := (((((h2.trans h3).trans h4).trans h5).trans h6).trans h7)
      cases b with
      | false => exact br_t rfl (wsx_raise hE (((q M7 mx).2 ho).2 fun hf => by have := hb.mpr hf; cases this))
      | true =>
        refine br_f rfl (wsx_of (ws_next ?_))
        refine wsx_of ?_
        walk_at "d"
        exact ((q M7 mx).2 ho).1 (hb.mp rfl)
  · exact ((q M2 h2).2 ho).2 fun hf => hnf (fit_of_tidy hf)
end
end FS
set_option maxHeartbeats 4000000
namespace FS
open PySem PySem.Spec PyProof.Rows L2
local macro_rules | `(tactic| walk_at "t") => `(tactic| exact use_hole (by assumption))
local macro_rules | `(tactic| walk_at "t") => `(tactic| exact use_at (by assumption))
local macro_rules | `(tactic| walk_at "t") => `(tactic| exact use_name (by assumption))
local macro_rules | `(tactic| walk_at "t") => `(tactic| exact use_num (by assumption))
local macro_rules | `(tactic| walk_at "t") => `(tactic| exact leaf_leaves (by assumption))
local macro_rules | `(tactic| walk_at "t") => `(tactic| exact use_leaves (by assumption))
local macro_rules | `(tactic| walk_at "t") => `(tactic| assumption)
local macro_rules | `(tactic| walk_at "t") => `(tactic| decide +kernel)
local macro_rules | `(tactic| walk_at "t") => `(tactic| rfl)
local macro_rules | `(tactic| walk_at "d1") => `(tactic| (with_reducible refine ⟨_, _, _, rfl, ?_⟩))
local macro_rules | `(tactic| walk_at "d1") => `(tactic| (with_reducible refine ⟨_, _, rfl, ?_⟩))
local macro_rules | `(tactic| walk_at "d1") => `(tactic| ((with_reducible refine rv_fdiv ?h1 ?_); (case h1 => exact ⟨by decide, by decide⟩)))
local macro_rules | `(tactic| walk_at "d1") => `(tactic| ((with_reducible refine rv_mod ?h1 ?_); (case h1 => (show (0 : Int) < _; decide))))
local macro_rules | `(tactic| walk_at "d1") => `(tactic| (with_reducible refine we_call (dxs := [.int 0]) (fun H => .cons (.int 0) .nil) ?_))
local macro_rules | `(tactic| walk_at "d1") => `(tactic| ((with_reducible refine' we_c ?h1 ?_); (case h1 => assumption)))
local macro_rules | `(tactic| walk_at "d1") => `(tactic| (with_reducible refine wt_yes ?_))
local macro_rules | `(tactic| walk_at "d1") => `(tactic| (with_reducible refine wg_name ?_))
local macro_rules | `(tactic| walk_at "d1") => `(tactic| (with_reducible refine rv_ix3 ?_))
local macro_rules | `(tactic| walk_at "d1") => `(tactic| (with_reducible refine rv_ix2 ?_))
local macro_rules | `(tactic| walk_at "d1") => `(tactic| (with_reducible refine rv_notN ?_))
local macro_rules | `(tactic| walk_at "d1") => `(tactic| (with_reducible refine rv_isN ?_))
local macro_rules | `(tactic| walk_at "d1") => `(tactic| (with_reducible refine rv_neS ?_))
local macro_rules | `(tactic| walk_at "d1") => `(tactic| (with_reducible refine rv_ge ?_))
local macro_rules | `(tactic| walk_at "d1") => `(tactic| (with_reducible refine rv_gt ?_))
local macro_rules | `(tactic| walk_at "d1") => `(tactic| (with_reducible refine rv_le ?_))
local macro_rules | `(tactic| walk_at "d1") => `(tactic| (with_reducible refine rv_sub ?_))
local macro_rules | `(tactic| walk_at "d1") => `(tactic| (with_reducible refine wo_some ?_))
local macro_rules | `(tactic| walk_at "d1") => `(tactic| (with_reducible refine wo_none ?_))
local macro_rules | `(tactic| walk_at "d1") => `(tactic| (with_reducible refine we_then ?_))
local macro_rules | `(tactic| walk_at "d1") => `(tactic| (with_reducible refine we_un ?_))
local macro_rules | `(tactic| walk_at "d1") => `(tactic| (with_reducible refine we_chain ?_))
local macro_rules | `(tactic| walk_at "d1") => `(tactic| (with_reducible refine we_if ?_))
local macro_rules | `(tactic| walk_at "d1") => `(tactic| (with_reducible refine we_not ?_))
local macro_rules | `(tactic| walk_at "d1") => `(tactic| (with_reducible refine we_or ?_))
local macro_rules | `(tactic| walk_at "d1") => `(tactic| (with_reducible refine we_and ?_))
local macro_rules | `(tactic| walk_at "d1") => `(tactic| (with_reducible refine wt_not ?_))
local macro_rules | `(tactic| walk_at "d1") => `(tactic| (with_reducible refine wt_B ?_))
local macro_rules | `(tactic| walk_at "d1") => `(tactic| (with_reducible refine we_slT ?_))
local macro_rules | `(tactic| walk_at "d1") => `(tactic| (with_reducible refine we_lst ?_))
local macro_rules | `(tactic| walk_at "d1") => `(tactic| (with_reducible refine we_ty ?_))
local macro_rules | `(tactic| walk_at "d1") => `(tactic| (with_reducible refine we_non ?_))
local macro_rules | `(tactic| walk_at "d1") => `(tactic| (with_reducible refine we_bl ?_))
local macro_rules | `(tactic| walk_at "d1") => `(tactic| (with_reducible refine ws_asg ?_))
local macro_rules | `(tactic| walk_at "d1") => `(tactic| (with_reducible refine ws_par3 ?_))
local macro_rules | `(tactic| walk_at "d1") => `(tactic| (with_reducible refine ws_par ?_))
local macro_rules | `(tactic| walk_at "d1") => `(tactic| (with_reducible refine ws_drop ?_))
local macro_rules | `(tactic| walk_at "d1") => `(tactic| (with_reducible refine ru_neg ?_))
local macro_rules | `(tactic| walk_at "d1") => `(tactic| (with_reducible refine rl_isi_bb ?_))
local macro_rules | `(tactic| walk_at "d1") => `(tactic| (with_reducible refine rl_isi_bt ?_))
local macro_rules | `(tactic| walk_at "d1") => `(tactic| (with_reducible refine rl_isi_sb ?_))
local macro_rules | `(tactic| walk_at "d1") => `(tactic| (with_reducible refine rl_isi_st ?_))
local macro_rules | `(tactic| walk_at "d1") => `(tactic| (with_reducible refine rl_isi_is ?_))
local macro_rules | `(tactic| walk_at "d1") => `(tactic| (with_reducible refine rl_isi_it ?_))
local macro_rules | `(tactic| walk_at "d1") => `(tactic| (with_reducible refine rl_isi_ib ?_))
local macro_rules | `(tactic| walk_at "d1") => `(tactic| (with_reducible refine rl_isi_ii ?_))
local macro_rules | `(tactic| walk_at "d1") => `(tactic| (with_reducible refine rl_isi_ss ?_))
local macro_rules | `(tactic| walk_at "d1") => `(tactic| (with_reducible refine rl_isi_tt ?_))
local macro_rules | `(tactic| walk_at "d1") => `(tactic| (with_reducible refine rl_abs ?_))
local macro_rules | `(tactic| walk_at "d1") => `(tactic| (with_reducible refine rl_int ?_))
local macro_rules | `(tactic| walk_at "d1") => `(tactic| (with_reducible refine wt_or ?_))
local macro_rules | `(tactic| walk_at "d1") => `(tactic| (with_reducible refine rv_lt ?_))
local macro_rules | `(tactic| walk_at "d1") => `(tactic| (with_reducible refine rv_add ?_))
local macro_rules | `(tactic| walk_at "d1") => `(tactic| (with_reducible refine we_cb ?_))
local macro_rules | `(tactic| walk_at "d1") => `(tactic| (with_reducible refine ws_set ?_))
local macro_rules | `(tactic| walk_at "d1") => `(tactic| (with_reducible refine rv_ix1 ?_))
local macro_rules | `(tactic| walk_at "d1") => `(tactic| (with_reducible refine wt_and ?_))
local macro_rules | `(tactic| walk_at "d1") => `(tactic| (with_reducible refine we_call0 ?_))
local macro_rules | `(tactic| walk_at "d1") => `(tactic| ((with_reducible refine br_t ?h1 ?_); (case h1 => walk_at "t")))
local macro_rules | `(tactic| walk_at "d1") => `(tactic| ((with_reducible refine rv_inT ?a1 ?a2 ?_); (case a1 => rfl); (case a2 => first | rfl | decide +kernel)))
local macro_rules | `(tactic| walk_at "d1") => `(tactic| ((with_reducible refine len_and ?h1 ?_); (case h1 => first | decide | (simp; done) | (simp; omega))))
local macro_rules | `(tactic| walk_at "d1") => `(tactic| ((with_reducible refine br_f ?h1 ?_); (case h1 => walk_at "t")))
local macro_rules | `(tactic| walk_at "d1") => `(tactic| (with_reducible refine ⟨_, rfl, ?_⟩))
local macro_rules | `(tactic| walk_at "d1") => `(tactic| (with_reducible refine ws_ret ?_))
local macro_rules | `(tactic| walk_at "d1") => `(tactic| (with_reducible refine rv_eqS ?_))
local macro_rules | `(tactic| walk_at "d1") => `(tactic| (with_reducible refine we_tup ?_))
local macro_rules | `(tactic| walk_at "d1") => `(tactic| (with_reducible refine rv_ix0 ?_))
local macro_rules | `(tactic| walk_at "d1") => `(tactic| (with_reducible refine ws_next ?_))
local macro_rules | `(tactic| walk_at "d1") => `(tactic| (with_reducible refine ws_if ?_))
local macro_rules | `(tactic| walk_at "d1") => `(tactic| (with_reducible refine wt_test ?_))
local macro_rules | `(tactic| walk_at "d1") => `(tactic| (with_reducible refine ws_seq ?_))
local macro_rules | `(tactic| walk_at "d1") => `(tactic| (with_reducible refine wa_nil ?_))
local macro_rules | `(tactic| walk_at "d1") => `(tactic| (with_reducible refine we_int ?_))
local macro_rules | `(tactic| walk_at "d1") => `(tactic| (with_reducible refine we_str ?_))
local macro_rules | `(tactic| walk_at "d1") => `(tactic| (with_reducible refine we_op ?_))
local macro_rules | `(tactic| walk_at "d1") => `(tactic| ((with_reducible refine' we_var ?h1 ?_); (case h1 => exact rfl)))
local macro_rules | `(tactic| walk_at "d1") => `(tactic| (with_reducible refine wa_cons ?_))
local macro_rules | `(tactic| walk_at "d") => `(tactic| repeat (walk_at "d1"))
theorem sc_go_on : FnScope ["program", "steps", "boxes", "term", "numbers", "done", "outcome", "said"] ["program", "steps"] (defScope s_go_on) := ⟨rfl, rfl, rfl, by decide +kernel, rfl, by decide +kernel, by decide +kernel⟩
def resD (r : Res) : Dv := .tup [.int (r.1 : Int), encP r.2.1 r.2.2.1, .tup (r.2.2.2.map .int)]
def S_go : SpX := fun xs M Q B => ∃ (bs : List Tm) (t : Tm) (k : Nat), xs = [encP bs t, .int (k : Int)] ∧ Gd bs t ∧ k ≤ 1000 ∧
  ∀ M', MEx M M' → (∀ r, run k 0 (tidyB bs t) (tidyT bs t) [] = some r → Q (resD r) M') ∧ (run k 0 (tidyB bs t) (tidyT bs t) [] = none → B M')
section
variable {P : Program} {w : World} {K : PySem.W.Frag} {mg : Str → Option Value} {base : Heap} {C : Addr}
theorem gd_tidy {bs : List Tm} {t : Tm} (h : Gd bs t) : Gd (tidyB bs t) (tidyT bs t) := ⟨tidy_wf h.wf, tidy_fit h.wf h.fit, fit_few (tidy_fit h.wf h.fit)⟩
theorem gd_next {bs : List Tm} {t : Tm} (h : Gd bs t) (ho : outcome t = "step") (hf : Fit (nextB bs t) (nextT bs t)) : Gd (nextB bs t) (nextT bs t) := ⟨tidy_wf (step_wf h.wf ho), hf, fit_few hf⟩
theorem tid_next {bs : List Tm} {t : Tm} (h : Gd bs t) (ho : outcome t = "step") : Tid (nextB bs t) (nextT bs t) := tidy_tid (step_wf h.wf ho)
theorem said_few {bs : List Tm} {t : Tm} (h : Gd bs t) (ho : outcome t = "step") : (stepP bs t).2.2.length ≤ 1 := by
  obtain ⟨pl, u, h1, h2, h3, h4, h5, h6, h7⟩ := step_at h.wf.tm ho
  have e : stepP bs t = ((made bs u).1, t.repl pl (made bs u).2.1, (made bs u).2.2) := by simp only [stepP, h1, h2]
  rw [e]
  rcases say_eq h4 h3 bs with ⟨_, k, eu⟩ | ⟨_, em⟩
  · rw [eu]
    exact Nat.le_refl _
  · rw [em]
    exact Nat.zero_le _
theorem cal_go_onP (G : Glb K mg) {L : Nat} (c_check_program : Cal P w K mg base L "check_program" S_chk []) (c_check_number : Cal P w K mg base L "check_number" S_chkn []) (c_tidied_by : Cal P w K mg base L "tidied_by" (S_tidy 60 1500) []) (c_next_tidied : CalX P w K mg base C L "next_tidied" S_nt) : CalXP P w K mg base C (L + 1) "go_on" ["program", "steps"] S_go := by
  refine cal_mkXP (ps := ["program", "steps"]) G.d_go_on (fun _ _ _ _ _ _ us hl => match us, hl with | [_, _], _ => rfl) sc_go_on (fun xs M Q B h => by obtain ⟨bs, t, k, rfl, _⟩ := h; rfl) fun f cdv A outer s H E hr => ⟨_, (pss_cons (ps_expr (pe_cal c_check_program hr (by omega) ⟨rfl, rfl, rfl, rfl, rfl⟩ rfl (pa_cons (pv 0) pa_nil)))
      (pss_cons (ps_expr (pe_cal c_check_number hr (by omega) ⟨rfl, rfl, rfl, rfl, rfl⟩ rfl (pa_cons (pv 1) (pa_cons pe_int (pa_cons pe_int pa_nil)))))
      (pss_cons (ps_asg (pe_cal c_tidied_by hr (by omega) ⟨rfl, rfl, rfl, rfl, rfl⟩ rfl (pa_cons (pe_ix (ix_tupK (K := K) rfl) (pv 0) pe_int (fun _ _ => rfl)) (pa_cons (pe_ix (ix_tupK (K := K) rfl) (pv 0) pe_int (fun _ _ => rfl)) pa_nil))) (pg_tupK (K := K) (n := 2) rfl rfl (pgs_cons (pg_name (i := 2) sc_go_on.nd rfl (.inl rfl)) (pgs_cons (pg_name (i := 3) sc_go_on.nd rfl (.inl rfl)) pgs_nil)) (by rfl) (by rfl)))
      (pss_cons (ps_set (i := 4) sc_go_on.nd rfl (.inl rfl) (pe_tup pa_nil))
      (pss_cons (ps_for (passes_of rfl) rfl (pi_range1 rfl G.b_range (pa_cons (pv 1) pa_nil)) (pg_name (i := 5) sc_go_on.nd rfl (.inl rfl))
        (pss_cons (ps_asg (pe_calX c_next_tidied hr (by omega) ⟨rfl, rfl, rfl, rfl, rfl⟩ rfl (takes_of rfl rfl rfl rfl) (pa_cons (pv 2) (pa_cons (pv 3) pa_nil))) (pg_tupK (K := K) (n := 4) rfl rfl (pgs_cons (pg_name (i := 6) sc_go_on.nd rfl (.inl rfl)) (pgs_cons (pg_name (i := 2) sc_go_on.nd rfl (.inl rfl)) (pgs_cons (pg_name (i := 3) sc_go_on.nd rfl (.inl rfl)) (pgs_cons (pg_name (i := 7) sc_go_on.nd rfl (.inl rfl)) pgs_nil)))) (by rfl) (by rfl)))
        (pss_cons (ps_if (pt_cmpR op_ne (pv 6) pe_str (nomark _))
          (pss_one (ps_ret (pe_tup (pa_cons (pv 5) (pa_cons (pe_tup (pa_cons (pv 2) (pa_cons (pv 3) pa_nil))) (pa_cons (pv 4) pa_nil))))))
          pss_nil)
        (pss_one (ps_set (i := 4) sc_go_on.nd rfl (.inl rfl) (pe_op (op_catK (K := K) rfl) (pv 4) (pv 7)))))))
      (pss_one (ps_ret (pe_tup (pa_cons (pv 1) (pa_cons (pe_tup (pa_cons (pv 2) (pa_cons (pv 3) pa_nil))) (pa_cons (pv 4) pa_nil))))))))))), fun xs M Q B h hE => ?_⟩
  obtain ⟨b0, t0, k, rfl, hg, hk, q⟩ := h
  have hlen := fit_len hg.fit
  refine wsx_seqW ?_
  walk_at "d"
  refine ⟨b0, t0, rfl, hg.wf, hg.fit, hg.few, fun M2 h2 => ?_⟩
  refine wsx_seqW ?_
  walk_at "d"
  refine ⟨_, _, _, rfl, by omega, by omega, fun M3 h3 => ?_⟩
  refine wsx_seqW ?_
  unfold encP
  walk_at "d"
  have hfew := hg.few
  refine ⟨b0, t0, rfl, hg.wf, ⟨hg.fit.2, fun b hb => (List.mem_cons.mp hb).elim (fun e => by rw [e]; exact hlen.1) (hlen.2 b)⟩, by omega, fun M4 h4 => ?_⟩
  unfold encP
  refine wg_tup rfl (wgs_cons (wg_name (wgs_cons (wg_name (wgs_nil ?_)))))
  refine wsx_seqW ?_
  walk_at "d"
  have mx := (h2.trans h3).trans h4
  refine wsx_seq ?_
  refine wsx_forR k (fun i ds' M' => MEx M M' ∧ ∃ (bs : List Tm) (t : Tm) (ns : List Int) (a b c : Option Dv), ds' = [some (.tup [.tup (b0.map Tm.enc), t0.enc]), some (.int (k : Int)), some (.tup (bs.map Tm.enc)), some t.enc, some (.tup (ns.map .int)), a, b, c] ∧ Gd bs t ∧ Tid bs t ∧ ns.length ≤ i ∧ i ≤ k ∧ run (k - i) i bs t ns = run k 0 (tidyB b0 t0) (tidyT b0 t0) []) ?_ ?_ ?_
  · walk_at "d"
    exact ⟨rfl, by omega, mx, _, _, [], none, none, none, rfl, gd_tidy hg, tidy_tid hg.wf, Nat.le_refl _, Nat.zero_le _, rfl⟩
  · rintro i ds' M' hi ⟨hM, bs, t, ns, a, b, c, rfl, hgd, htid, hns, hik, hrun⟩
    have er : run (k - i) i bs t ns = if outcome t = "step" then (if Fit (nextB bs t) (nextT bs t) then run (k - (i + 1)) (i + 1) (nextB bs t) (nextT bs t) (ns ++ (stepP bs t).2.2) else none) else some (i, bs, t, ns) := by
      have : k - i = (k - (i + 1)) + 1 := by omega
      rw [this]
      rfl
    rw [er] at hrun
    refine wsx_seq ?_
    refine wsx_asg hE ?_
    walk_at "d"
    refine ⟨bs, t, rfl, hgd, fun M5 h5 => ⟨fun ho => ?_, fun ho => ⟨fun hf => ?_, fun hf => ?_⟩⟩⟩
    · rw [if_neg ho] at hrun
      refine wg_tup rfl (wgs_cons (wg_name (wgs_cons (wg_name (wgs_cons (wg_name (wgs_cons (wg_name (wgs_nil ?_)))))))))
      refine wsx_seqW ?_
      walk_at "d"
      refine br_t (by simpa using ho) ?_
      walk_at "d"
      rw [htid.b, htid.t]
      exact (q M5 (hM.trans h5)).1 _ hrun.symm
    · rw [if_pos ho, if_pos hf] at hrun
      refine wg_tup rfl (wgs_cons (wg_name (wgs_cons (wg_name (wgs_cons (wg_name (wgs_cons (wg_name (wgs_nil ?_)))))))))
      refine wsx_seqW ?_
      walk_at "d"
      refine br_f (by simpa using ho) ?_
      walk_at "d"
      refine wsx_of ?_
      have hsf := said_few hgd ho
      walk_at "d"
      refine rv_catT (by simp; omega) ?_
      refine ⟨hM.trans h5, nextB bs t, nextT bs t, ns ++ (stepP bs t).2.2, some (.int (i : Int)), some (.str (outcome t)), some (.tup ((stepP bs t).2.2.map .int)), ?_, gd_next hgd ho hf, tid_next hgd ho, by simp; omega, by omega, hrun⟩
      rw [List.map_append]
      rfl
    · rw [if_pos ho, if_neg hf] at hrun
      exact (q M5 (hM.trans h5)).2 hrun.symm
  · rintro ds' M' ⟨hM, bs, t, ns, a, b, c, rfl, hgd, htid, hns, hik, hrun⟩
    refine wsx_of ?_
    walk_at "d"
    rw [Nat.sub_self] at hrun
    exact (q M' hM).1 _ hrun.symm
end
end FS
set_option maxHeartbeats 4000000
namespace FS
open PySem PySem.Spec PyProof.Rows L2
local macro_rules | `(tactic| walk_at "t") => `(tactic| exact use_hole (by assumption))
local macro_rules | `(tactic| walk_at "t") => `(tactic| exact use_at (by assumption))
local macro_rules | `(tactic| walk_at "t") => `(tactic| exact use_name (by assumption))
local macro_rules | `(tactic| walk_at "t") => `(tactic| exact use_num (by assumption))
local macro_rules | `(tactic| walk_at "t") => `(tactic| exact leaf_leaves (by assumption))
local macro_rules | `(tactic| walk_at "t") => `(tactic| exact use_leaves (by assumption))
local macro_rules | `(tactic| walk_at "t") => `(tactic| assumption)
local macro_rules | `(tactic| walk_at "t") => `(tactic| decide +kernel)
local macro_rules | `(tactic| walk_at "t") => `(tactic| rfl)
local macro_rules | `(tactic| walk_at "d1") => `(tactic| (with_reducible refine ⟨_, _, _, rfl, ?_⟩))
local macro_rules | `(tactic| walk_at "d1") => `(tactic| (with_reducible refine ⟨_, _, rfl, ?_⟩))
local macro_rules | `(tactic| walk_at "d1") => `(tactic| ((with_reducible refine rv_fdiv ?h1 ?_); (case h1 => exact ⟨by decide, by decide⟩)))
local macro_rules | `(tactic| walk_at "d1") => `(tactic| ((with_reducible refine rv_mod ?h1 ?_); (case h1 => (show (0 : Int) < _; decide))))
local macro_rules | `(tactic| walk_at "d1") => `(tactic| (with_reducible refine we_call (dxs := [.int 0]) (fun H => .cons (.int 0) .nil) ?_))
local macro_rules | `(tactic| walk_at "d1") => `(tactic| ((with_reducible refine' we_c ?h1 ?_); (case h1 => assumption)))
local macro_rules | `(tactic| walk_at "d1") => `(tactic| (with_reducible refine wt_yes ?_))
local macro_rules | `(tactic| walk_at "d1") => `(tactic| (with_reducible refine wg_name ?_))
local macro_rules | `(tactic| walk_at "d1") => `(tactic| (with_reducible refine rv_ix3 ?_))
local macro_rules | `(tactic| walk_at "d1") => `(tactic| (with_reducible refine rv_ix2 ?_))
local macro_rules | `(tactic| walk_at "d1") => `(tactic| (with_reducible refine rv_notN ?_))
local macro_rules | `(tactic| walk_at "d1") => `(tactic| (with_reducible refine rv_isN ?_))
local macro_rules | `(tactic| walk_at "d1") => `(tactic| (with_reducible refine rv_neS ?_))
local macro_rules | `(tactic| walk_at "d1") => `(tactic| (with_reducible refine rv_ge ?_))
local macro_rules | `(tactic| walk_at "d1") => `(tactic| (with_reducible refine rv_gt ?_))
local macro_rules | `(tactic| walk_at "d1") => `(tactic| (with_reducible refine rv_le ?_))
local macro_rules | `(tactic| walk_at "d1") => `(tactic| (with_reducible refine rv_sub ?_))
local macro_rules | `(tactic| walk_at "d1") => `(tactic| (with_reducible refine wo_some ?_))
local macro_rules | `(tactic| walk_at "d1") => `(tactic| (with_reducible refine wo_none ?_))
local macro_rules | `(tactic| walk_at "d1") => `(tactic| (with_reducible refine we_then ?_))
local macro_rules | `(tactic| walk_at "d1") => `(tactic| (with_reducible refine we_un ?_))
local macro_rules | `(tactic| walk_at "d1") => `(tactic| (with_reducible refine we_chain ?_))
local macro_rules | `(tactic| walk_at "d1") => `(tactic| (with_reducible refine we_if ?_))
local macro_rules | `(tactic| walk_at "d1") => `(tactic| (with_reducible refine we_not ?_))
local macro_rules | `(tactic| walk_at "d1") => `(tactic| (with_reducible refine we_or ?_))
local macro_rules | `(tactic| walk_at "d1") => `(tactic| (with_reducible refine we_and ?_))
local macro_rules | `(tactic| walk_at "d1") => `(tactic| (with_reducible refine wt_not ?_))
local macro_rules | `(tactic| walk_at "d1") => `(tactic| (with_reducible refine wt_B ?_))
local macro_rules | `(tactic| walk_at "d1") => `(tactic| (with_reducible refine we_slT ?_))
local macro_rules | `(tactic| walk_at "d1") => `(tactic| (with_reducible refine we_lst ?_))
local macro_rules | `(tactic| walk_at "d1") => `(tactic| (with_reducible refine we_ty ?_))
local macro_rules | `(tactic| walk_at "d1") => `(tactic| (with_reducible refine we_non ?_))
local macro_rules | `(tactic| walk_at "d1") => `(tactic| (with_reducible refine we_bl ?_))
local macro_rules | `(tactic| walk_at "d1") => `(tactic| (with_reducible refine ws_asg ?_))
local macro_rules | `(tactic| walk_at "d1") => `(tactic| (with_reducible refine ws_par3 ?_))
local macro_rules | `(tactic| walk_at "d1") => `(tactic| (with_reducible refine ws_par ?_))
local macro_rules | `(tactic| walk_at "d1") => `(tactic| (with_reducible refine ws_drop ?_))
local macro_rules | `(tactic| walk_at "d1") => `(tactic| (with_reducible refine ru_neg ?_))
local macro_rules | `(tactic| walk_at "d1") => `(tactic| (with_reducible refine rl_isi_bb ?_))
local macro_rules | `(tactic| walk_at "d1") => `(tactic| (with_reducible refine rl_isi_bt ?_))
local macro_rules | `(tactic| walk_at "d1") => `(tactic| (with_reducible refine rl_isi_sb ?_))
local macro_rules | `(tactic| walk_at "d1") => `(tactic| (with_reducible refine rl_isi_st ?_))
local macro_rules | `(tactic| walk_at "d1") => `(tactic| (with_reducible refine rl_isi_is ?_))
local macro_rules | `(tactic| walk_at "d1") => `(tactic| (with_reducible refine rl_isi_it ?_))
local macro_rules | `(tactic| walk_at "d1") => `(tactic| (with_reducible refine rl_isi_ib ?_))
local macro_rules | `(tactic| walk_at "d1") => `(tactic| (with_reducible refine rl_isi_ii ?_))
local macro_rules | `(tactic| walk_at "d1") => `(tactic| (with_reducible refine rl_isi_ss ?_))
local macro_rules | `(tactic| walk_at "d1") => `(tactic| (with_reducible refine rl_isi_tt ?_))
local macro_rules | `(tactic| walk_at "d1") => `(tactic| (with_reducible refine rl_abs ?_))
local macro_rules | `(tactic| walk_at "d1") => `(tactic| (with_reducible refine rl_int ?_))
local macro_rules | `(tactic| walk_at "d1") => `(tactic| (with_reducible refine wt_or ?_))
local macro_rules | `(tactic| walk_at "d1") => `(tactic| (with_reducible refine rv_lt ?_))
local macro_rules | `(tactic| walk_at "d1") => `(tactic| (with_reducible refine rv_add ?_))
local macro_rules | `(tactic| walk_at "d1") => `(tactic| (with_reducible refine we_cb ?_))
local macro_rules | `(tactic| walk_at "d1") => `(tactic| (with_reducible refine ws_set ?_))
local macro_rules | `(tactic| walk_at "d1") => `(tactic| (with_reducible refine rv_ix1 ?_))
local macro_rules | `(tactic| walk_at "d1") => `(tactic| (with_reducible refine wt_and ?_))
local macro_rules | `(tactic| walk_at "d1") => `(tactic| (with_reducible refine we_call0 ?_))
local macro_rules | `(tactic| walk_at "d1") => `(tactic| ((with_reducible refine br_t ?h1 ?_); (case h1 => walk_at "t")))
local macro_rules | `(tactic| walk_at "d1") => `(tactic| ((with_reducible refine rv_inT ?a1 ?a2 ?_); (case a1 => rfl); (case a2 => first | rfl | decide +kernel)))
local macro_rules | `(tactic| walk_at "d1") => `(tactic| ((with_reducible refine len_and ?h1 ?_); (case h1 => first | decide | (simp; done) | (simp; omega))))
local macro_rules | `(tactic| walk_at "d1") => `(tactic| ((with_reducible refine br_f ?h1 ?_); (case h1 => walk_at "t")))
local macro_rules | `(tactic| walk_at "d1") => `(tactic| (with_reducible refine ⟨_, rfl, ?_⟩))
local macro_rules | `(tactic| walk_at "d1") => `(tactic| (with_reducible refine ws_ret ?_))
local macro_rules | `(tactic| walk_at "d1") => `(tactic| (with_reducible refine rv_eqS ?_))
local macro_rules | `(tactic| walk_at "d1") => `(tactic| (with_reducible refine we_tup ?_))
local macro_rules | `(tactic| walk_at "d1") => `(tactic| (with_reducible refine rv_ix0 ?_))
local macro_rules | `(tactic| walk_at "d1") => `(tactic| (with_reducible refine ws_next ?_))
local macro_rules | `(tactic| walk_at "d1") => `(tactic| (with_reducible refine ws_if ?_))
local macro_rules | `(tactic| walk_at "d1") => `(tactic| (with_reducible refine wt_test ?_))
local macro_rules | `(tactic| walk_at "d1") => `(tactic| (with_reducible refine ws_seq ?_))
local macro_rules | `(tactic| walk_at "d1") => `(tactic| (with_reducible refine wa_nil ?_))
local macro_rules | `(tactic| walk_at "d1") => `(tactic| (with_reducible refine we_int ?_))
local macro_rules | `(tactic| walk_at "d1") => `(tactic| (with_reducible refine we_str ?_))
local macro_rules | `(tactic| walk_at "d1") => `(tactic| (with_reducible refine we_op ?_))
local macro_rules | `(tactic| walk_at "d1") => `(tactic| ((with_reducible refine' we_var ?h1 ?_); (case h1 => exact rfl)))
local macro_rules | `(tactic| walk_at "d1") => `(tactic| (with_reducible refine wa_cons ?_))
local macro_rules | `(tactic| walk_at "d") => `(tactic| repeat (walk_at "d1"))
theorem sc__law_names : FnScope ["_law_book", "_law_word", "_law_form"] ["_law_book", "_law_word"] (defScope s__law_names) := ⟨rfl, rfl, rfl, by decide +kernel, rfl, by decide +kernel, by decide +kernel⟩
theorem sc__law_length : FnScope ["_law_book", "_law_term", "_law_part_here"] ["_law_book", "_law_term"] (defScope s__law_length) := ⟨rfl, rfl, rfl, by decide +kernel, rfl, by decide +kernel, by decide +kernel⟩
theorem sc__law_depth : FnScope ["_law_term", "_law_part_here"] ["_law_term"] (defScope s__law_depth) := ⟨rfl, rfl, rfl, by decide +kernel, rfl, by decide +kernel, by decide +kernel⟩
theorem sc__law_way : FnScope ["_law_name", "_law_ways", "_law_by", "_law_deep", "_law_free"] ["_law_name", "_law_ways", "_law_by", "_law_deep"] (defScope s__law_way) := ⟨rfl, rfl, rfl, by decide +kernel, rfl, by decide +kernel, by decide +kernel⟩
theorem sc__law_led : FnScope ["_law_book", "_law_term", "_law_ways", "_law_by", "_law_deep", "_law_names_here", "_law_name", "_law_part_here", "_law_b"] ["_law_book", "_law_term", "_law_ways", "_law_by", "_law_deep"] (defScope s__law_led) := ⟨rfl, rfl, rfl, by decide +kernel, rfl, by decide +kernel, by decide +kernel⟩
theorem sc__law_put_in : FnScope ["_law_book", "_law_term", "_law_parts", "_law_deep", "_law_free", "_law_names_here", "_law_part_here", "_law_b"] ["_law_book", "_law_term", "_law_parts", "_law_deep"] (defScope s__law_put_in) := ⟨rfl, rfl, rfl, by decide +kernel, rfl, by decide +kernel, by decide +kernel⟩
theorem sc__law_part_at : FnScope ["_law_term", "_law_place_here", "_law_found", "_law_at"] ["_law_term", "_law_place_here"] (defScope s__law_part_at) := ⟨rfl, rfl, rfl, by decide +kernel, rfl, by decide +kernel, by decide +kernel⟩
theorem sc__law_replaced : FnScope ["_law_term", "_law_place_here", "_law_part_here", "_law_at"] ["_law_term", "_law_place_here", "_law_part_here"] (defScope s__law_replaced) := ⟨rfl, rfl, rfl, by decide +kernel, rfl, by decide +kernel, by decide +kernel⟩
theorem sc__law_is_value : FnScope ["_law_term"] ["_law_term"] (defScope s__law_is_value) := ⟨rfl, rfl, rfl, by decide +kernel, rfl, by decide +kernel, by decide +kernel⟩
def T_names : SpD := fun xs M Q => ∃ t : Tm, xs = [.tup [], .str t.word] ∧ t.isUse = true ∧ ∀ M', MEx M M' → Q (.tup ((t.binds.map fun n => ((n : Nat) : Int)).map .int)) M'
def T_len (n : Nat) : SpD := fun xs M Q => ∃ t : Tm, xs = [.tup [], t.enc] ∧ t.dep ≤ n ∧ ∀ M', MEx M M' → Q (.int t.len) M'
def T_led (n : Nat) : SpD := fun xs M Q => ∃ (t : Tm) (d : Nat) (b : Int), xs = [.tup [], t.enc, .tup [], .int b, .int (d : Int)] ∧ t.cl d = true ∧ t.dep ≤ n ∧ ∀ M', MEx M M' → Q t.enc M'
def T_put (n m : Nat) : SpD := fun xs M Q => ∃ (t : Tm) (gs : List Tm) (d : Nat), xs = [.tup [], t.enc, .tup (gs.map Tm.enc), .int (d : Int)] ∧ t.cl (d + gs.length) = true ∧ (∀ g ∈ gs, g.cl 0 = true ∧ g.dep ≤ m) ∧ t.dep ≤ n ∧ ∀ M', MEx M M' → Q (t.putIn gs d).enc M'
section
variable {P : Program} {w : World} {K : PySem.W.Frag} {mg : Str → Option Value} {base : Heap}
theorem cal__law_names (G : Glb K mg) : Cal P w K mg base 1 "_law_names" T_names [] := by
  refine cal_mk (ps := ["_law_book", "_law_word"]) G.d__law_names (fun _ _ _ _ _ _ us hl => match us, hl with | [_, _], _ => rfl) sc__law_names (fun xs M Q h => by obtain ⟨t, rfl, _⟩ := h; rfl) fun f cdv A outer s H E hr => ⟨_, (pss_cons (ps_if (pt_cmpR (op_inK (K := K) rfl) (pv 1) (pe_tup (pa_cons pe_str (pa_cons pe_str (pa_cons pe_str (pa_cons pe_str (pa_cons pe_str (pa_cons pe_str pa_nil))))))) (by rfl))
        (pss_one (ps_ret (pe_tup (pa_cons pe_int (pa_cons pe_int pa_nil)))))
        pss_nil)
      (pss_cons (ps_if (pt_cmpR (op_inK (K := K) rfl) (pv 1) (pe_tup (pa_cons pe_str (pa_cons pe_str (pa_cons pe_str (pa_cons pe_str (pa_cons pe_str pa_nil)))))) (by rfl))
        (pss_one (ps_ret (pe_tup (pa_cons pe_int pa_nil))))
        pss_nil)
      (pss_cons (ps_if (pt_cmpR op_eq (pv 1) pe_str (nomark _))
        (pss_one (ps_ret (pe_tup (pa_cons pe_int pa_nil))))
        pss_nil)
      (pss_cons (ps_if (pt_cmpR op_eq (pv 1) pe_str (nomark _))
        (pss_one (ps_ret (pe_tup (pa_cons pe_int pa_nil))))
        pss_nil)
      (pss_cons (ps_if (pt_cmpR op_eq (pv 1) pe_str (nomark _))
        (pss_one (ps_ret (pe_tup (pa_cons pe_int (pa_cons pe_int (pa_cons pe_int pa_nil))))))
        pss_nil)
      (pss_cons (ps_for PassesOwn.never rfl (pi_tupK (K := K) rfl (pv 0)) (pg_name (i := 2) sc__law_names.nd rfl (.inl rfl))
        pss_never)
      (pss_one (ps_ret pe_non)))))))), fun xs M Q h => ?_⟩
  obtain ⟨t, rfl, hu, q⟩ := h
  have q' := q M .refl
  cases t with
  | u1 w a =>
    cases w <;>
    · simp only [Tm.word, W1.s]
      walk_at "d"
      exact q'
  | u2 w a b =>
    cases w <;>
    · simp only [Tm.word, W2.s]
      walk_at "d"
      exact q'
  | u3 a b c =>
    simp only [Tm.word]
    walk_at "d"
    exact q'
  | _ => cases hu
theorem step__law_length (G : Glb K mg) {n : Nat} (c__law_names : Cal P w K mg base 1 "_law_names" T_names []) (c__law_length : Cal P w K mg base (n + 1) "_law_length" (T_len n) []) : Cal P w K mg base (n + 2) "_law_length" (T_len (n + 1)) [] := by
  refine cal_mk (ps := ["_law_book", "_law_term"]) G.d__law_length (fun _ _ _ _ _ _ us hl => match us, hl with | [_, _], _ => rfl) sc__law_length (fun xs M Q h => by obtain ⟨t, rfl, _⟩ := h; rfl) fun f cdv A outer s H E hr => ⟨_, (pss_cons (ps_if (pt_cmpR (op_inK (K := K) rfl) (pe_ix (ix_tupK (K := K) rfl) (pv 1) pe_int (fun _ _ => rfl)) (pe_tup (pa_cons pe_str (pa_cons pe_str (pa_cons pe_str (pa_cons pe_str pa_nil))))) (by rfl))
        (pss_one (ps_ret pe_int))
        pss_nil)
      (pss_one (ps_ret (pe_op op_add (pe_op op_add pe_int (pe_callB (cr_sumTK (K := K) rfl rfl) (by rfl) G.b_sum (by decide +kernel) (pa_cons (pe_cal c__law_names hr (by omega) ⟨rfl, rfl, rfl, rfl, rfl⟩ rfl (pa_cons (pv 0) (pa_cons (pe_ix (ix_tupK (K := K) rfl) (pv 1) pe_int (fun _ _ => rfl)) pa_nil))) pa_nil))) (pe_callB (cr_sumK (K := K) rfl rfl) (by rfl) G.b_sum (by decide +kernel) (pa_cons (pe_lc (own := [("_law_part_here", 2)]) (by rfl) sc__law_length.nd (pi_tupK (K := K) rfl (pe_slice (sl_tupK (K := K) rfl) (pv 1) (po_some pe_int) po_none)) (blkOk_by (N := ["_law_book", "_law_term", "_law_part_here"]) (sc := defScope s__law_length) (by decide +kernel)) (fun _ _ _ _ _ => (pg_name (i := 2) sc__law_length.nd rfl (.inl rfl))) (fun _ _ _ _ _ => pts_nil) (fun _ _ _ _ _ => (pe_cal c__law_length hr (by omega) ⟨rfl, rfl, rfl, rfl, rfl⟩ rfl (pa_cons (pv 0) (pa_cons (pv 2) pa_nil))))) pa_nil)))))), fun xs M Q h => ?_⟩
  obtain ⟨t, rfl, hd, q⟩ := h
  cases hu : t.isUse with
  | false =>
    have e : t.len = 1 := by cases t <;> first | rfl | cases hu
    have q' := q M .refl
    rw [e] at q'
    refine ws_seq (ws_if (wt_test (we_op (we_word (t := t) rfl ?_))))
    walk_at "d"
    exact q'
  | true =>
    rw [Tm.enc_use hu]
    walk_at "d"
    refine ⟨t, rfl, hu, fun M2 h2 => ?_⟩
    walk_at "d"
    refine rl_sumTN ?_
    walk_at "d"
    refine we_lcParts (t := t) (fun p => .int (p.len : Int)) rfl rfl ?_ ?_
    · intro p hp M3 hM
      walk_at "d"
      exact ⟨p, rfl, by have := Tm.dep_part hp; omega, fun M' h => ⟨h, rfl⟩⟩
    · intro r M3 hM hr
      walk_at "d"
      refine rl_sumN hr ?_
      walk_at "d"
      have e := Tm.len_use hu
      have q' := q M3 (h2.trans hM)
      rw [e] at q'
      simpa using q'
theorem step__law_depth (G : Glb K mg) {n : Nat} (c__law_depth : Cal P w K mg base n "_law_depth" (S_dep n) []) : Cal P w K mg base (n + 1) "_law_depth" (S_dep (n + 1)) [] := by
  refine cal_mk (ps := ["_law_term"]) G.d__law_depth (fun _ _ _ _ _ _ us hl => match us, hl with | [_], _ => rfl) sc__law_depth (fun xs M Q h => by obtain ⟨t, rfl, _⟩ := h; rfl) fun f cdv A outer s H E hr => ⟨_, (pss_cons (ps_if (pt_cmpR (op_inK (K := K) rfl) (pe_ix (ix_tupK (K := K) rfl) (pv 0) pe_int (fun _ _ => rfl)) (pe_tup (pa_cons pe_str (pa_cons pe_str (pa_cons pe_str (pa_cons pe_str pa_nil))))) (by rfl))
        (pss_one (ps_ret pe_int))
        pss_nil)
      (pss_one (ps_ret (pe_op op_add pe_int (pe_callB (cr_maxK (K := K) rfl rfl) (by rfl) G.b_max (by decide +kernel) (pa_cons (pe_lc (own := [("_law_part_here", 1)]) (by rfl) sc__law_depth.nd (pi_tupK (K := K) rfl (pe_slice (sl_tupK (K := K) rfl) (pv 0) (po_some pe_int) po_none)) (blkOk_by (N := ["_law_term", "_law_part_here"]) (sc := defScope s__law_depth) (by decide +kernel)) (fun _ _ _ _ _ => (pg_name (i := 1) sc__law_depth.nd rfl (.inl rfl))) (fun _ _ _ _ _ => pts_nil) (fun _ _ _ _ _ => (pe_cal c__law_depth hr (by omega) ⟨rfl, rfl, rfl, rfl, rfl⟩ rfl (pa_cons (pv 1) pa_nil)))) pa_nil)))))), fun xs M Q h => ?_⟩
  obtain ⟨t, rfl, hd, q⟩ := h
  cases hu : t.isUse with
  | false =>
    have e : t.dep = 1 := by cases t <;> first | rfl | cases hu
    have q' := q M .refl
    rw [e] at q'
    refine ws_seq (ws_if (wt_test (we_op (we_word (t := t) rfl ?_))))
    walk_at "d"
    exact q'
  | true =>
    rw [Tm.enc_use hu]
    walk_at "d"
    refine we_lcParts (t := t) (fun p => .int (p.dep : Int)) rfl rfl ?_ ?_
    · intro p hp M2 hM
      walk_at "d"
      exact ⟨p, rfl, by have := Tm.dep_part hp; omega, fun M' h => ⟨h, rfl⟩⟩
    · intro r M2 hM hr
      walk_at "d"
      refine rl_max (ns := t.parts.map fun p => (p.dep : Int)) (by rw [hr, List.map_map]; rfl) (by cases t <;> first | (simp [Tm.parts]; done) | cases hu) fun m h1 h2 => ?_
      walk_at "d"
      rw [dep_use hu h1 h2]
      exact q M2 hM
theorem cal__law_way (G : Glb K mg) : Cal P w K mg base 1 "_law_way" S_ledn [] := by
  refine cal_mk (ps := ["_law_name", "_law_ways", "_law_by", "_law_deep"]) G.d__law_way (fun _ _ _ _ _ _ us hl => match us, hl with | [_, _, _, _], _ => rfl) sc__law_way (fun xs M Q h => by obtain ⟨k, d, b, rfl, _⟩ := h; rfl) fun f cdv A outer s H E hr => ⟨_, (pss_cons (ps_if (pt_cmpR op_lt (pv 0) (pv 3) (nomark _))
        (pss_one (ps_ret (pv 0)))
        pss_nil)
      (pss_cons (ps_set (i := 4) sc__law_way.nd rfl (.inl rfl) (pe_op op_sub (pv 0) (pv 3)))
      (pss_one (ps_ret (pe_op op_add (pv 3) (pe_ifExp (pt_cmpR op_lt (pv 4) (pe_callB (call_lenK (K := K) rfl) (by rfl) G.b_len PySem.boot_len (pa_cons (pv 1) pa_nil)) (nomark _)) (pe_ix (ix_tupK (K := K) rfl) (pv 1) (pv 4) (fun _ _ => rfl)) (pe_op op_add (pe_op op_sub (pv 4) (pe_callB (call_lenK (K := K) rfl) (by rfl) G.b_len PySem.boot_len (pa_cons (pv 1) pa_nil))) (pv 2)))))))), fun xs M Q h => ?_⟩
  obtain ⟨k, d, b, rfl, hk, q⟩ := h
  walk_at "d"
  refine br_t (by simpa using hk) ?_
  walk_at "d"
  exact q M .refl
theorem use_in2 {t : Tm} (h : t.isUse = true) : inD (.str t.word) [.str "number", .str "at"] = false := by
  have e1 : ∀ w : W1, inD (.str w.s) [.str "number", .str "at"] = false := fun w => by cases w <;> decide +kernel
  have e2 : ∀ w : W2, inD (.str w.s) [.str "number", .str "at"] = false := fun w => by cases w <;> decide +kernel
  cases t with
  | u1 w a => exact e1 w
  | u2 w a b => exact e2 w
  | u3 a b c => exact (by decide +kernel : inD (.str "test") [.str "number", .str "at"] = false)
  | _ => cases h
theorem step__law_led (G : Glb K mg) {n : Nat} (c__law_way : Cal P w K mg base 1 "_law_way" S_ledn []) (c__law_names : Cal P w K mg base 1 "_law_names" T_names []) (c__law_led : Cal P w K mg base (n + 1) "_law_led" (T_led n) []) : Cal P w K mg base (n + 2) "_law_led" (T_led (n + 1)) [] := by
  refine cal_mk (ps := ["_law_book", "_law_term", "_law_ways", "_law_by", "_law_deep"]) G.d__law_led (fun _ _ _ _ _ _ us hl => match us, hl with | [_, _, _, _, _], _ => rfl) sc__law_led (fun xs M Q h => by obtain ⟨t, d, b, rfl, _⟩ := h; rfl) fun f cdv A outer s H E hr => ⟨_, (pss_cons (ps_if (pt_cmpR op_eq (pe_ix (ix_tupK (K := K) rfl) (pv 1) pe_int (fun _ _ => rfl)) pe_str (nomark _))
        (pss_one (ps_ret (pe_tup (pa_cons pe_str (pa_cons (pe_cal c__law_way hr (by omega) ⟨rfl, rfl, rfl, rfl, rfl⟩ rfl (pa_cons (pe_ix (ix_tupK (K := K) rfl) (pv 1) pe_int (fun _ _ => rfl)) (pa_cons (pv 2) (pa_cons (pv 3) (pa_cons (pv 4) pa_nil))))) pa_nil)))))
        pss_nil)
      (pss_cons (ps_if (pt_cmpR op_eq (pe_ix (ix_tupK (K := K) rfl) (pv 1) pe_int (fun _ _ => rfl)) pe_str (nomark _))
        pss_never
        pss_nil)
      (pss_cons (ps_if (pt_cmpR (op_inK (K := K) rfl) (pe_ix (ix_tupK (K := K) rfl) (pv 1) pe_int (fun _ _ => rfl)) (pe_tup (pa_cons pe_str (pa_cons pe_str pa_nil))) (by rfl))
        (pss_one (ps_ret (pv 1)))
        pss_nil)
      (pss_cons (ps_set (i := 5) sc__law_led.nd rfl (.inl rfl) (pe_cal c__law_names hr (by omega) ⟨rfl, rfl, rfl, rfl, rfl⟩ rfl (pa_cons (pv 0) (pa_cons (pe_ix (ix_tupK (K := K) rfl) (pv 1) pe_int (fun _ _ => rfl)) pa_nil))))
      (pss_one (ps_ret (pe_op (op_catK (K := K) rfl) (pe_tup (pa_cons (pe_ix (ix_tupK (K := K) rfl) (pv 1) pe_int (fun _ _ => rfl)) pa_nil)) (pe_tupleK (K := K) rfl rfl G.b_tuple (pe_lc (own := [("_law_part_here", 7), ("_law_b", 8)]) (by rfl) sc__law_led.nd (pi_zipK (K := K) rfl rfl G.b_zip (pa_cons (pe_slice (sl_tupK (K := K) rfl) (pv 1) (po_some pe_int) po_none) (pa_cons (pv 5) pa_nil))) (blkOk_by (N := ["_law_book", "_law_term", "_law_ways", "_law_by", "_law_deep", "_law_names_here", "_law_name", "_law_part_here", "_law_b"]) (sc := defScope s__law_led) (by decide +kernel)) (fun _ _ _ _ _ => (pg_tupK (K := K) (n := 2) rfl rfl (pgs_cons (pg_name (i := 7) sc__law_led.nd rfl (.inl rfl)) (pgs_cons (pg_name (i := 8) sc__law_led.nd rfl (.inl rfl)) pgs_nil)) (by rfl) (by rfl))) (fun _ _ _ _ _ => pts_nil) (fun _ _ _ _ _ => (pe_cal c__law_led hr (by omega) ⟨rfl, rfl, rfl, rfl, rfl⟩ rfl (pa_cons (pv 0) (pa_cons (pv 7) (pa_cons (pv 2) (pa_cons (pv 3) (pa_cons (pe_op op_add (pv 4) (pv 8)) pa_nil)))))))))))))))), fun xs M Q h => ?_⟩
  obtain ⟨t, d, b, rfl, hc, hd, q⟩ := h
  cases hu : t.isUse with
  | false =>
    cases t with
    | name k =>
      simp only [Tm.enc] at q ⊢
      walk_at "d"
      refine ⟨k, d, b, rfl, by simpa [Tm.cl] using hc, fun M' h => ?_⟩
      walk_at "d"
      exact q M' h
    | num k =>
      simp only [Tm.enc] at q ⊢
      walk_at "d"
      exact q M .refl
    | «at» k =>
      simp only [Tm.enc] at q ⊢
      walk_at "d"
      exact q M .refl
    | _ => cases hu
  | true =>
    rw [Tm.enc_use hu]
    walk_at "d"
    refine br_f (use_in2 hu) ?_
    walk_at "d"
    refine ⟨t, rfl, hu, fun M1 h1 => ?_⟩
    walk_at "d"
    refine we_lcPBz (t := t) (fun p => p.1.enc) rfl ?_ ?_ ?_
    · walk_at "d"
      rw [cut1]
      exact ⟨rfl, .refl⟩
    · intro p hp M2 hM
      walk_at "d"
      exact ⟨p.1, d + p.2, b, rfl, Tm.cl_zip hc p hp, by have := Tm.zip_dep hp; omega, fun M' h => ⟨h, rfl⟩⟩
    · intro r M2 hM hr
      refine ru_tupL hr ?_
      refine rv_catT (by have := zipPB_3 t; simp; omega) ?_
      walk_at "d"
      have e := Tm.enc_mapP hu (f := fun _ p => p)
      rw [Tm.mapP_id] at e
      have q' := q M2 (h1.trans hM)
      rw [e] at q'
      exact q'
theorem step__law_put_in (G : Glb K mg) {n m L : Nat} (hL : 1 ≤ L) (c__law_names : Cal P w K mg base 1 "_law_names" T_names []) (c__law_led : Cal P w K mg base L "_law_led" (T_led m) []) (c__law_put_in : Cal P w K mg base (n + L) "_law_put_in" (T_put n m) []) : Cal P w K mg base (n + L + 1) "_law_put_in" (T_put (n + 1) m) [] := by
  refine cal_mk (ps := ["_law_book", "_law_term", "_law_parts", "_law_deep"]) G.d__law_put_in (fun _ _ _ _ _ _ us hl => match us, hl with | [_, _, _, _], _ => rfl) sc__law_put_in (fun xs M Q h => by obtain ⟨t, d, b, rfl, _⟩ := h; rfl) fun f cdv A outer s H E hr => ⟨_, (pss_cons (ps_if (pt_cmpR (op_inK (K := K) rfl) (pe_ix (ix_tupK (K := K) rfl) (pv 1) pe_int (fun _ _ => rfl)) (pe_tup (pa_cons pe_str (pa_cons pe_str pa_nil))) (by rfl))
        (pss_one (ps_ret (pv 1)))
        pss_nil)
      (pss_cons (ps_if (pt_cmpR op_eq (pe_ix (ix_tupK (K := K) rfl) (pv 1) pe_int (fun _ _ => rfl)) pe_str (nomark _))
        (pss_cons (ps_set (i := 4) sc__law_put_in.nd rfl (.inl rfl) (pe_op op_sub (pe_ix (ix_tupK (K := K) rfl) (pv 1) pe_int (fun _ _ => rfl)) (pv 3)))
        (pss_cons (ps_if (pt_cmpR op_lt (pv 4) pe_int (nomark _))
          (pss_one (ps_ret (pv 1)))
          pss_nil)
        (pss_one (ps_ret (pe_ifExp (pt_cmpR op_lt (pv 4) (pe_callB (call_lenK (K := K) rfl) (by rfl) G.b_len PySem.boot_len (pa_cons (pv 2) pa_nil)) (nomark _)) (pe_cal c__law_led hr (by omega) ⟨rfl, rfl, rfl, rfl, rfl⟩ rfl (pa_cons (pv 0) (pa_cons (pe_ix (ix_tupK (K := K) rfl) (pv 2) (pv 4) (fun _ _ => rfl)) (pa_cons (pe_tup pa_nil) (pa_cons (pv 3) (pa_cons pe_int pa_nil)))))) (pe_tup (pa_cons pe_str (pa_cons (pe_op op_sub (pe_ix (ix_tupK (K := K) rfl) (pv 1) pe_int (fun _ _ => rfl)) (pe_callB (call_lenK (K := K) rfl) (by rfl) G.b_len PySem.boot_len (pa_cons (pv 2) pa_nil))) pa_nil))))))))
        pss_nil)
      (pss_cons (ps_set (i := 5) sc__law_put_in.nd rfl (.inl rfl) (pe_cal c__law_names hr (by omega) ⟨rfl, rfl, rfl, rfl, rfl⟩ rfl (pa_cons (pv 0) (pa_cons (pe_ix (ix_tupK (K := K) rfl) (pv 1) pe_int (fun _ _ => rfl)) pa_nil))))
      (pss_one (ps_ret (pe_op (op_catK (K := K) rfl) (pe_tup (pa_cons (pe_ix (ix_tupK (K := K) rfl) (pv 1) pe_int (fun _ _ => rfl)) pa_nil)) (pe_tupleK (K := K) rfl rfl G.b_tuple (pe_lc (own := [("_law_part_here", 6), ("_law_b", 7)]) (by rfl) sc__law_put_in.nd (pi_zipK (K := K) rfl rfl G.b_zip (pa_cons (pe_slice (sl_tupK (K := K) rfl) (pv 1) (po_some pe_int) po_none) (pa_cons (pv 5) pa_nil))) (blkOk_by (N := ["_law_book", "_law_term", "_law_parts", "_law_deep", "_law_free", "_law_names_here", "_law_part_here", "_law_b"]) (sc := defScope s__law_put_in) (by decide +kernel)) (fun _ _ _ _ _ => (pg_tupK (K := K) (n := 2) rfl rfl (pgs_cons (pg_name (i := 6) sc__law_put_in.nd rfl (.inl rfl)) (pgs_cons (pg_name (i := 7) sc__law_put_in.nd rfl (.inl rfl)) pgs_nil)) (by rfl) (by rfl))) (fun _ _ _ _ _ => pts_nil) (fun _ _ _ _ _ => (pe_cal c__law_put_in hr (by omega) ⟨rfl, rfl, rfl, rfl, rfl⟩ rfl (pa_cons (pv 0) (pa_cons (pv 6) (pa_cons (pv 2) (pa_cons (pe_op op_add (pv 3) (pv 7)) pa_nil)))))))))))))), fun xs M Q h => ?_⟩
  obtain ⟨t, gs, d, rfl, hc, hg, hd, q⟩ := h
  cases hu : t.isUse with
  | false =>
    cases t with
    | name k =>
      have hc' : k < d + gs.length := by simpa [Tm.cl] using hc
      simp only [Tm.enc] at q ⊢
      walk_at "d"
      by_cases h1 : k < d
      · refine br_t (decide_eq_true (by omega)) ?_
        walk_at "d"
        have e : (Tm.name k).putIn gs d = .name k := by simp [Tm.putIn, h1]
        rw [e] at q
        exact q M .refl
      · refine br_f (decide_eq_false (by omega)) ?_
        walk_at "d"
        refine rl_lenT ?_
        walk_at "d"
        rw [List.length_map]
        refine br_t (decide_eq_true (by omega)) ?_
        walk_at "d"
        have e1 : gs[k - d]? = some gs[k - d] := List.getElem?_eq_getElem (by omega)
        have e : (Tm.name k).putIn gs d = gs[k - d] := by simp [Tm.putIn, h1, e1]
        have e2 : ((k : Int) - (d : Int)) = ((k - d : Nat) : Int) := by omega
        rw [e2]
        refine rv_ixT (d := (gs[k - d]).enc) (atI_nat (by rw [List.getElem?_map, e1]; rfl)) ?_
        walk_at "d"
        obtain ⟨hg1, hg2⟩ := hg gs[k - d] (List.getElem_mem _)
        refine ⟨gs[k - d], 0, d, rfl, hg1, hg2, fun M' h => ?_⟩
        rw [e] at q
        exact q M' h
    | num k =>
      simp only [Tm.enc] at q ⊢
      walk_at "d"
      exact q M .refl
    | «at» k =>
      simp only [Tm.enc] at q ⊢
      walk_at "d"
      exact q M .refl
    | _ => cases hu
  | true =>
    rw [Tm.enc_use hu]
    walk_at "d"
    refine br_f (use_in2 hu) ?_
    walk_at "d"
    refine ⟨t, rfl, hu, fun M1 h1 => ?_⟩
    walk_at "d"
    refine we_lcPBz (t := t) (fun p => (p.1.putIn gs (d + p.2)).enc) rfl ?_ ?_ ?_
    · walk_at "d"
      rw [cut1]
      exact ⟨rfl, .refl⟩
    · intro p hp M2 hM
      walk_at "d"
      exact ⟨p.1, gs, d + p.2, rfl, by rw [Nat.add_right_comm]; exact Tm.cl_zip hc p hp, hg, by have := Tm.zip_dep hp; omega, fun M' h => ⟨h, rfl⟩⟩
    · intro r M2 hM hr
      refine ru_tupL hr ?_
      refine rv_catT (by have := zipPB_3 t; simp; omega) ?_
      walk_at "d"
      have e := Tm.enc_mapP hu (f := fun b p => p.putIn gs (d + b))
      rw [← Tm.putIn_use hu] at e
      have q' := q M2 (h1.trans hM)
      rw [e] at q'
      exact q'
theorem step__law_is_value (G : Glb K mg) {n : Nat} (c__law_is_value : Cal P w K mg base n "_law_is_value" (S_isval n) []) : Cal P w K mg base (n + 1) "_law_is_value" (S_isval (n + 1)) [] := by
  refine cal_mk (ps := ["_law_term"]) G.d__law_is_value (fun _ _ _ _ _ _ us hl => match us, hl with | [_], _ => rfl) sc__law_is_value (fun xs M Q h => by obtain ⟨t, rfl, _⟩ := h; rfl) fun f cdv A outer s H E hr => ⟨_, (pss_cons (ps_if (pt_cmpR op_eq (pe_ix (ix_tupK (K := K) rfl) (pv 0) pe_int (fun _ _ => rfl)) pe_str (nomark _))
        (pss_one (ps_ret (pe_and (pe_cal c__law_is_value hr (by omega) ⟨rfl, rfl, rfl, rfl, rfl⟩ rfl (pa_cons (pe_ix (ix_tupK (K := K) rfl) (pv 0) pe_int (fun _ _ => rfl)) pa_nil)) (pe_one (pe_cal c__law_is_value hr (by omega) ⟨rfl, rfl, rfl, rfl, rfl⟩ rfl (pa_cons (pe_ix (ix_tupK (K := K) rfl) (pv 0) pe_int (fun _ _ => rfl)) pa_nil))))))
        pss_nil)
      (pss_one (ps_ret (pe_cmpR (op_inK (K := K) rfl) (pe_ix (ix_tupK (K := K) rfl) (pv 0) pe_int (fun _ _ => rfl)) (pe_tup (pa_cons pe_str (pa_cons pe_str (pa_cons pe_str (pa_cons pe_str pa_nil))))) (by rfl))))), fun xs M Q h => ?_⟩
  obtain ⟨t, rfl, hd, q⟩ := h
  cases t with
  | u2 w a b =>
    cases w with
    | pair =>
      simp only [Tm.enc] at q ⊢
      walk_at "d"
      refine ⟨a, rfl, by simp [Tm.dep] at hd; omega, fun M2 h2 => ?_⟩
      walk_at "d"
      refine ⟨fun e => ?_, fun e => ?_⟩
      · walk_at "d"
        refine ⟨b, rfl, by simp [Tm.dep] at hd; omega, fun M3 h3 => ?_⟩
        have q' := q M3 (h2.trans h3)
        rw [Tm.isVal, e] at q'
        exact q'
      · have q' := q M2 h2
        rw [Tm.isVal, e] at q'
        exact q'
    | _ =>
      simp only [Tm.enc] at q ⊢
      walk_at "d"
      exact q M .refl
  | u1 w a =>
    cases w <;>
    · simp only [Tm.enc] at q ⊢
      walk_at "d"
      exact q M .refl
  | _ =>
    simp only [Tm.enc] at q ⊢
    walk_at "d"
    exact q M .refl
theorem cal__law_part_at (G : Glb K mg) : Cal P w K mg base 1 "_law_part_at" S_part [] := by
  refine cal_mk (ps := ["_law_term", "_law_place_here"]) G.d__law_part_at (fun _ _ _ _ _ _ us hl => match us, hl with | [_, _], _ => rfl) sc__law_part_at (fun xs M Q h => by obtain ⟨t, pl, r, rfl, _⟩ := h; rfl) fun f cdv A outer s H E hr => ⟨_, (pss_cons (ps_set (i := 2) sc__law_part_at.nd rfl (.inl rfl) (pv 0))
      (pss_cons (ps_for PassesOwn.never rfl (pi_tupK (K := K) rfl (pv 1)) (pg_name (i := 3) sc__law_part_at.nd rfl (.inl rfl))
        (pss_one (ps_set (i := 2) sc__law_part_at.nd rfl (.inl rfl) (pe_ix (ix_tupK (K := K) rfl) (pv 2) (pe_op op_add (pv 3) pe_int) (fun _ _ => rfl)))))
      (pss_one (ps_ret (pv 2))))), fun xs M Q h => ?_⟩
  obtain ⟨t, pl, r, rfl, hp, q⟩ := h
  refine ws_seq (ws_set (we_var rfl ?_))
  refine ws_seq (ws_forU pl natD (fun i ds' M' => MEx M M' ∧ ∃ (u : Tm) (a b : Option Dv), ds' = [a, some (plD pl), some u.enc, b] ∧ u.partAt (pl.drop i) = some r) ?_ ?_ ?_)
  · refine we_var rfl ⟨?_, .refl, t, _, none, rfl, hp⟩
    unfold plD
    rw [List.map_map]
    rfl
  · rintro i j ds' M' hj ⟨mx, u, a, b, rfl, hu⟩
    have hlt := (List.getElem?_eq_some_iff.mp hj).1
    have hd : pl.drop i = j :: pl.drop (i + 1) := by
      rw [List.drop_eq_getElem_cons hlt, (List.getElem?_eq_some_iff.mp hj).2]
    rw [hd] at hu
    obtain ⟨v, hv, hr⟩ : ∃ v, u.parts[j]? = some v ∧ v.partAt (pl.drop (i + 1)) = some r := by
      cases e : u.parts[j]? with
      | none =>
        rw [Tm.partAt, e] at hu
        cases hu
      | some v =>
        rw [Tm.partAt, e] at hu
        exact ⟨v, rfl, hu⟩
    have huse := part_of hv
    rw [Tm.enc_use huse]
    unfold natD
    walk_at "d"
    have e2 : ((j : Int) + 1) = ((j + 1 : Nat) : Int) := by omega
    rw [e2]
    refine rv_ixT (d := v.enc) (atI_nat (by rw [List.getElem?_cons_succ, List.getElem?_map, hv]; rfl)) ?_
    walk_at "d"
    exact ⟨mx, v, _, some (.int (j : Int)), rfl, hr⟩
  · rintro ds' M' ⟨mx, u, a, b, rfl, hu⟩
    rw [List.drop_length] at hu
    cases hu
    refine ws_ret (we_var rfl ?_)
    exact q M' mx
theorem step__law_replaced (G : Glb K mg) {n : Nat} (c__law_replaced : Cal P w K mg base n "_law_replaced" (S_repl n) []) : Cal P w K mg base (n + 1) "_law_replaced" (S_repl (n + 1)) [] := by
  refine cal_mk (ps := ["_law_term", "_law_place_here", "_law_part_here"]) G.d__law_replaced (fun _ _ _ _ _ _ us hl => match us, hl with | [_, _, _], _ => rfl) sc__law_replaced (fun xs M Q h => by obtain ⟨t, pl, r, u, rfl, _⟩ := h; rfl) fun f cdv A outer s H E hr => ⟨_, (pss_cons (ps_if (pt_cmpR (op_eqDK (K := K) rfl hr.units) (pv 1) (pe_tup pa_nil) (nomark _))
        (pss_one (ps_ret (pv 2)))
        pss_nil)
      (pss_cons (ps_set (i := 3) sc__law_replaced.nd rfl (.inl rfl) (pe_op op_add (pe_ix (ix_tupK (K := K) rfl) (pv 1) pe_int (fun _ _ => rfl)) pe_int))
      (pss_one (ps_ret (pe_op (op_catK (K := K) rfl) (pe_op (op_catK (K := K) rfl) (pe_slice (sl_tupK (K := K) rfl) (pv 0) po_none (po_some (pv 3))) (pe_tup (pa_cons (pe_cal c__law_replaced hr (by omega) ⟨rfl, rfl, rfl, rfl, rfl⟩ rfl (pa_cons (pe_ix (ix_tupK (K := K) rfl) (pv 0) (pv 3) (fun _ _ => rfl)) (pa_cons (pe_slice (sl_tupK (K := K) rfl) (pv 1) (po_some pe_int) po_none) (pa_cons (pv 2) pa_nil)))) pa_nil))) (pe_slice (sl_tupK (K := K) rfl) (pv 0) (po_some (pe_op op_add (pv 3) pe_int)) po_none)))))), fun xs M Q h => ?_⟩
  obtain ⟨t, pl, r, u, rfl, hl, hp, q⟩ := h
  unfold plD
  walk_at "d"
  refine rv_eqT0 ?_
  walk_at "d"
  cases pl with
  | nil =>
    refine br_t rfl ?_
    walk_at "d"
    exact q M .refl
  | cons i is =>
    refine br_f rfl ?_
    obtain ⟨v, hv, hu⟩ : ∃ v, t.parts[i]? = some v ∧ v.partAt is = some u := by
      cases e : t.parts[i]? with
      | none =>
        rw [Tm.partAt, e] at hp
        cases hp
      | some v =>
        rw [Tm.partAt, e] at hp
        exact ⟨v, rfl, hp⟩
    have huse := part_of hv
    have hi : i < t.parts.length := (List.getElem?_eq_some_iff.mp hv).1
    have h3 := parts_3 t
    rw [Tm.enc_use huse]
    simp only [List.map_cons]
    have e1 : ((i : Int) + 1) = ((i + 1 : Nat) : Int) := by omega
    have e2 : (((i + 1 : Nat) : Int) + 1) = ((i + 2 : Nat) : Int) := by omega
    walk_at "d"
    rw [e1]
    walk_at "d"
    rw [cut_to]
    refine rv_ixT (d := v.enc) (atI_nat (by rw [List.getElem?_cons_succ, List.getElem?_map, hv]; rfl)) ?_
    walk_at "d"
    rw [cut1]
    refine ⟨v, is, r, u, rfl, by simpa using hl, hu, fun M2 h2 => ?_⟩
    walk_at "d"
    refine rv_catT (by simp; omega) ?_
    walk_at "d"
    rw [e2, cut_from]
    refine rv_catT (by simp; omega) ?_
    have q' := q M2 h2
    rw [Tm.repl, hv] at q'
    have e3 := setP_enc hv (v.repl is r)
    rw [e3] at q'
    exact q'
end
end FS
set_option maxHeartbeats 4000000
namespace FS
open PySem PySem.Spec PyProof.Rows L2
local macro_rules | `(tactic| walk_at "t") => `(tactic| exact use_hole (by assumption))
local macro_rules | `(tactic| walk_at "t") => `(tactic| exact use_at (by assumption))
local macro_rules | `(tactic| walk_at "t") => `(tactic| exact use_name (by assumption))
local macro_rules | `(tactic| walk_at "t") => `(tactic| exact use_num (by assumption))
local macro_rules | `(tactic| walk_at "t") => `(tactic| exact leaf_leaves (by assumption))
local macro_rules | `(tactic| walk_at "t") => `(tactic| exact use_leaves (by assumption))
local macro_rules | `(tactic| walk_at "t") => `(tactic| assumption)
local macro_rules | `(tactic| walk_at "t") => `(tactic| decide +kernel)
local macro_rules | `(tactic| walk_at "t") => `(tactic| rfl)
local macro_rules | `(tactic| walk_at "d1") => `(tactic| (with_reducible refine ⟨_, _, _, rfl, ?_⟩))
local macro_rules | `(tactic| walk_at "d1") => `(tactic| (with_reducible refine ⟨_, _, rfl, ?_⟩))
local macro_rules | `(tactic| walk_at "d1") => `(tactic| ((with_reducible refine rv_fdiv ?h1 ?_); (case h1 => exact ⟨by decide, by decide⟩)))
local macro_rules | `(tactic| walk_at "d1") => `(tactic| ((with_reducible refine rv_mod ?h1 ?_); (case h1 => (show (0 : Int) < _; decide))))
local macro_rules | `(tactic| walk_at "d1") => `(tactic| (with_reducible refine we_call (dxs := [.int 0]) (fun H => .cons (.int 0) .nil) ?_))
local macro_rules | `(tactic| walk_at "d1") => `(tactic| ((with_reducible refine' we_c ?h1 ?_); (case h1 => assumption)))
local macro_rules | `(tactic| walk_at "d1") => `(tactic| (with_reducible refine wt_yes ?_))
local macro_rules | `(tactic| walk_at "d1") => `(tactic| (with_reducible refine wg_name ?_))
local macro_rules | `(tactic| walk_at "d1") => `(tactic| (with_reducible refine rv_ix3 ?_))
local macro_rules | `(tactic| walk_at "d1") => `(tactic| (with_reducible refine rv_ix2 ?_))
local macro_rules | `(tactic| walk_at "d1") => `(tactic| (with_reducible refine rv_notN ?_))
local macro_rules | `(tactic| walk_at "d1") => `(tactic| (with_reducible refine rv_isN ?_))
local macro_rules | `(tactic| walk_at "d1") => `(tactic| (with_reducible refine rv_neS ?_))
local macro_rules | `(tactic| walk_at "d1") => `(tactic| (with_reducible refine rv_ge ?_))
local macro_rules | `(tactic| walk_at "d1") => `(tactic| (with_reducible refine rv_gt ?_))
local macro_rules | `(tactic| walk_at "d1") => `(tactic| (with_reducible refine rv_le ?_))
local macro_rules | `(tactic| walk_at "d1") => `(tactic| (with_reducible refine rv_sub ?_))
local macro_rules | `(tactic| walk_at "d1") => `(tactic| (with_reducible refine wo_some ?_))
local macro_rules | `(tactic| walk_at "d1") => `(tactic| (with_reducible refine wo_none ?_))
local macro_rules | `(tactic| walk_at "d1") => `(tactic| (with_reducible refine we_then ?_))
local macro_rules | `(tactic| walk_at "d1") => `(tactic| (with_reducible refine we_un ?_))
local macro_rules | `(tactic| walk_at "d1") => `(tactic| (with_reducible refine we_chain ?_))
local macro_rules | `(tactic| walk_at "d1") => `(tactic| (with_reducible refine we_if ?_))
local macro_rules | `(tactic| walk_at "d1") => `(tactic| (with_reducible refine we_not ?_))
local macro_rules | `(tactic| walk_at "d1") => `(tactic| (with_reducible refine we_or ?_))
local macro_rules | `(tactic| walk_at "d1") => `(tactic| (with_reducible refine we_and ?_))
local macro_rules | `(tactic| walk_at "d1") => `(tactic| (with_reducible refine wt_not ?_))
local macro_rules | `(tactic| walk_at "d1") => `(tactic| (with_reducible refine wt_B ?_))
local macro_rules | `(tactic| walk_at "d1") => `(tactic| (with_reducible refine we_slT ?_))
local macro_rules | `(tactic| walk_at "d1") => `(tactic| (with_reducible refine we_lst ?_))
local macro_rules | `(tactic| walk_at "d1") => `(tactic| (with_reducible refine we_ty ?_))
local macro_rules | `(tactic| walk_at "d1") => `(tactic| (with_reducible refine we_non ?_))
local macro_rules | `(tactic| walk_at "d1") => `(tactic| (with_reducible refine we_bl ?_))
local macro_rules | `(tactic| walk_at "d1") => `(tactic| (with_reducible refine ws_asg ?_))
local macro_rules | `(tactic| walk_at "d1") => `(tactic| (with_reducible refine ws_par3 ?_))
local macro_rules | `(tactic| walk_at "d1") => `(tactic| (with_reducible refine ws_par ?_))
local macro_rules | `(tactic| walk_at "d1") => `(tactic| (with_reducible refine ws_drop ?_))
local macro_rules | `(tactic| walk_at "d1") => `(tactic| (with_reducible refine ru_neg ?_))
local macro_rules | `(tactic| walk_at "d1") => `(tactic| (with_reducible refine rl_isi_bb ?_))
local macro_rules | `(tactic| walk_at "d1") => `(tactic| (with_reducible refine rl_isi_bt ?_))
local macro_rules | `(tactic| walk_at "d1") => `(tactic| (with_reducible refine rl_isi_sb ?_))
local macro_rules | `(tactic| walk_at "d1") => `(tactic| (with_reducible refine rl_isi_st ?_))
local macro_rules | `(tactic| walk_at "d1") => `(tactic| (with_reducible refine rl_isi_is ?_))
local macro_rules | `(tactic| walk_at "d1") => `(tactic| (with_reducible refine rl_isi_it ?_))
local macro_rules | `(tactic| walk_at "d1") => `(tactic| (with_reducible refine rl_isi_ib ?_))
local macro_rules | `(tactic| walk_at "d1") => `(tactic| (with_reducible refine rl_isi_ii ?_))
local macro_rules | `(tactic| walk_at "d1") => `(tactic| (with_reducible refine rl_isi_ss ?_))
local macro_rules | `(tactic| walk_at "d1") => `(tactic| (with_reducible refine rl_isi_tt ?_))
local macro_rules | `(tactic| walk_at "d1") => `(tactic| (with_reducible refine rl_abs ?_))
local macro_rules | `(tactic| walk_at "d1") => `(tactic| (with_reducible refine rl_int ?_))
local macro_rules | `(tactic| walk_at "d1") => `(tactic| (with_reducible refine wt_or ?_))
local macro_rules | `(tactic| walk_at "d1") => `(tactic| (with_reducible refine rv_lt ?_))
local macro_rules | `(tactic| walk_at "d1") => `(tactic| (with_reducible refine rv_add ?_))
local macro_rules | `(tactic| walk_at "d1") => `(tactic| (with_reducible refine we_cb ?_))
local macro_rules | `(tactic| walk_at "d1") => `(tactic| (with_reducible refine ws_set ?_))
local macro_rules | `(tactic| walk_at "d1") => `(tactic| (with_reducible refine rv_ix1 ?_))
local macro_rules | `(tactic| walk_at "d1") => `(tactic| (with_reducible refine wt_and ?_))
local macro_rules | `(tactic| walk_at "d1") => `(tactic| (with_reducible refine we_call0 ?_))
local macro_rules | `(tactic| walk_at "d1") => `(tactic| ((with_reducible refine br_t ?h1 ?_); (case h1 => walk_at "t")))
local macro_rules | `(tactic| walk_at "d1") => `(tactic| ((with_reducible refine rv_inT ?a1 ?a2 ?_); (case a1 => rfl); (case a2 => first | rfl | decide +kernel)))
local macro_rules | `(tactic| walk_at "d1") => `(tactic| ((with_reducible refine len_and ?h1 ?_); (case h1 => first | decide | (simp; done) | (simp; omega))))
local macro_rules | `(tactic| walk_at "d1") => `(tactic| ((with_reducible refine br_f ?h1 ?_); (case h1 => walk_at "t")))
local macro_rules | `(tactic| walk_at "d1") => `(tactic| (with_reducible refine ⟨_, rfl, ?_⟩))
local macro_rules | `(tactic| walk_at "d1") => `(tactic| (with_reducible refine ws_ret ?_))
local macro_rules | `(tactic| walk_at "d1") => `(tactic| (with_reducible refine rv_eqS ?_))
local macro_rules | `(tactic| walk_at "d1") => `(tactic| (with_reducible refine we_tup ?_))
local macro_rules | `(tactic| walk_at "d1") => `(tactic| (with_reducible refine rv_ix0 ?_))
local macro_rules | `(tactic| walk_at "d1") => `(tactic| (with_reducible refine ws_next ?_))
local macro_rules | `(tactic| walk_at "d1") => `(tactic| (with_reducible refine ws_if ?_))
local macro_rules | `(tactic| walk_at "d1") => `(tactic| (with_reducible refine wt_test ?_))
local macro_rules | `(tactic| walk_at "d1") => `(tactic| (with_reducible refine ws_seq ?_))
local macro_rules | `(tactic| walk_at "d1") => `(tactic| (with_reducible refine wa_nil ?_))
local macro_rules | `(tactic| walk_at "d1") => `(tactic| (with_reducible refine we_int ?_))
local macro_rules | `(tactic| walk_at "d1") => `(tactic| (with_reducible refine we_str ?_))
local macro_rules | `(tactic| walk_at "d1") => `(tactic| (with_reducible refine we_op ?_))
local macro_rules | `(tactic| walk_at "d1") => `(tactic| ((with_reducible refine' we_var ?h1 ?_); (case h1 => exact rfl)))
local macro_rules | `(tactic| walk_at "d1") => `(tactic| (with_reducible refine wa_cons ?_))
local macro_rules | `(tactic| walk_at "d") => `(tactic| repeat (walk_at "d1"))
theorem sc__law_ats : FnScope ["_law_term", "_law_found", "_law_part_here"] ["_law_term", "_law_found"] (defScope s__law_ats) := ⟨rfl, rfl, rfl, by decide +kernel, rfl, by decide +kernel, by decide +kernel⟩
theorem sc__law_met : FnScope ["_law_program_here", "_law_found", "_law_at"] ["_law_program_here"] (defScope s__law_met) := ⟨rfl, rfl, rfl, by decide +kernel, rfl, by decide +kernel, by decide +kernel⟩
theorem sc__law_renumbered : FnScope ["_law_term", "_law_order", "_law_part_here"] ["_law_term", "_law_order"] (defScope s__law_renumbered) := ⟨rfl, rfl, rfl, by decide +kernel, rfl, by decide +kernel, by decide +kernel⟩
theorem sc__law_tidied : FnScope ["_law_program_here", "_law_order", "_law_box"] ["_law_program_here"] (defScope s__law_tidied) := ⟨rfl, rfl, rfl, by decide +kernel, rfl, by decide +kernel, by decide +kernel⟩
/-- the boxes met so far: each once, below m -/
def Few (m : Nat) (ks : List Nat) : Prop := ks.Nodup ∧ ∀ k ∈ ks, k < m
theorem few_len {m : Nat} {ks : List Nat} (h : Few m ks) : ks.length ≤ m := nodup_le m ks h.1 h.2
theorem few_ats {m d : Nat} {t : Tm} {ks : List Nat} (h : Few m ks) (hw : t.wf m d = true) : Few m (t.atsF ks) := ⟨atsF_nodup t h.1, fun k hk => ((atsF_has t).mp hk).elim (h.2 k) (wf_has t hw)⟩
def T_ats (n : Nat) : SpD := fun xs M Q => ∃ (t : Tm) (p : Addr) (ks : List Nat) (m d : Nat), xs = [t.enc, .adr p] ∧ M p = some (.lst (ks.map natD)) ∧ Few m ks ∧ t.wf m d = true ∧ m ≤ 100000 ∧ t.dep ≤ n ∧ ∀ M', MExB p M M' → M' p = some (.lst ((t.atsF ks).map natD)) → Q (.adr p) M'
def T_met (n : Nat) : SpD := fun xs M Q => ∃ (bs : List Tm) (t : Tm), xs = [encP bs t] ∧ Wf bs t ∧ (∀ b ∈ t :: bs, b.dep ≤ n) ∧ bs.length ≤ 100000 ∧ ∀ M' p, MEx M M' → M' p = some (.lst ((met bs t).map natD)) → Q (.adr p) M'
def T_renum (n : Nat) : SpD := fun xs M Q => ∃ (t : Tm) (p : Addr) (ks : List Nat), xs = [t.enc, .adr p] ∧ M p = some (.lst (ks.map natD)) ∧ (∀ k, t.has k = true → k ∈ ks) ∧ t.dep ≤ n ∧ ∀ M', MEx M M' → Q (t.renum ks).enc M'
def T_tidy (n : Nat) : SpD := fun xs M Q => ∃ (bs : List Tm) (t : Tm), xs = [encP bs t] ∧ Wf bs t ∧ (∀ b ∈ t :: bs, b.dep ≤ n) ∧ bs.length ≤ 100000 ∧ ∀ M', MEx M M' → Q (encP (tidyB bs t) (tidyT bs t)) M'
theorem use_in3 {t : Tm} (h : t.isUse = true) : inD (.str t.word) [.str "number", .str "name", .str "hole"] = false := by
  have e1 : ∀ w : W1, inD (.str w.s) [.str "number", .str "name", .str "hole"] = false := fun w => by cases w <;> decide +kernel
  have e2 : ∀ w : W2, inD (.str w.s) [.str "number", .str "name", .str "hole"] = false := fun w => by cases w <;> decide +kernel
  cases t with
  | u1 w a => exact e1 w
  | u2 w a b => exact e2 w
  | u3 a b c => exact (by decide +kernel : inD (.str "test") [.str "number", .str "name", .str "hole"] = false)
  | _ => cases h
theorem use_in4 {t : Tm} (h : t.isUse = true) : inD (.str t.word) [.str "number", .str "name"] = false := by
  have e1 : ∀ w : W1, inD (.str w.s) [.str "number", .str "name"] = false := fun w => by cases w <;> decide +kernel
  have e2 : ∀ w : W2, inD (.str w.s) [.str "number", .str "name"] = false := fun w => by cases w <;> decide +kernel
  cases t with
  | u1 w a => exact e1 w
  | u2 w a b => exact e2 w
  | u3 a b c => exact (by decide +kernel : inD (.str "test") [.str "number", .str "name"] = false)
  | _ => cases h
theorem few_atsN {m d : Nat} {t : Tm} (hw : t.wf m d = true) : ∀ (n : Nat) {ks : List Nat}, Few m ks → Few m (atsN t ks n) := by
  intro n
  induction n with
  | zero => intro ks h; exact h
  | succ n ih =>
    intro ks h
    cases e : t.parts[n]? with
    | none =>
      have e2 : atsN t ks (n + 1) = atsN t ks n := by
        unfold atsN
        rw [List.take_add_one, e]
        simp
      rw [e2]
      exact ih h
    | some p =>
      rw [atsN_succ e]
      have hp : n < t.parts.length := (List.getElem?_eq_some_iff.mp e).1
      have hz : t.zipPB[n]? = some (p, t.binds[n]'(by rw [Tm.binds_len]; exact hp)) := by
        unfold Tm.zipPB
        rw [List.getElem?_zip_eq_some]
        exact ⟨e, List.getElem?_eq_getElem _⟩
      have h5 := Tm.wf_part hw _ (List.mem_of_getElem? hz)
      exact few_ats (ih h) h5
section
variable {P : Program} {w : World} {K : PySem.W.Frag} {mg : Str → Option Value} {base : Heap}
theorem step__law_ats (G : Glb K mg) {n : Nat} (c__law_ats : Cal P w K mg base n "_law_ats" (T_ats n) []) : Cal P w K mg base (n + 1) "_law_ats" (T_ats (n + 1)) [] := by
  refine cal_mk (ps := ["_law_term", "_law_found"]) G.d__law_ats (fun _ _ _ _ _ _ us hl => match us, hl with | [_, _], _ => rfl) sc__law_ats (fun xs M Q h => by obtain ⟨t, p, ks, m, d, rfl, _⟩ := h; rfl) fun f cdv A outer s H E hr => ⟨_, (pss_cons (ps_if (pt_cmpR op_eq (pe_ix (ix_tupK (K := K) rfl) (pv 0) pe_int (fun _ _ => rfl)) pe_str (nomark _))
        (pss_one (ps_if (pt_cmpR (op_niK (K := K) rfl) (pe_ix (ix_tupK (K := K) rfl) (pv 0) pe_int (fun _ _ => rfl)) (pv 1) (by rfl))
          (pss_one (ps_expr (pe_bmK (K := K) rfl PySem.F.plainAttrs_list PySem.F.slot_list_append PySem.F.type_list_append mt_append (pv 1) (pa_cons (pe_ix (ix_tupK (K := K) rfl) (pv 0) pe_int (fun _ _ => rfl)) pa_nil))))
          pss_nil))
        (pss_one (ps_if (pt_cmpR (op_niK (K := K) rfl) (pe_ix (ix_tupK (K := K) rfl) (pv 0) pe_int (fun _ _ => rfl)) (pe_tup (pa_cons pe_str (pa_cons pe_str (pa_cons pe_str pa_nil)))) (by rfl))
          (pss_one (ps_for PassesOwn.never rfl (pi_tupK (K := K) rfl (pe_slice (sl_tupK (K := K) rfl) (pv 0) (po_some pe_int) po_none)) (pg_name (i := 2) sc__law_ats.nd rfl (.inl rfl))
            (pss_one (ps_expr (pe_cal c__law_ats hr (by omega) ⟨rfl, rfl, rfl, rfl, rfl⟩ rfl (pa_cons (pv 2) (pa_cons (pv 1) pa_nil)))))))
          pss_nil)))
      (pss_one (ps_ret (pv 1)))), fun xs M Q h => ?_⟩
  obtain ⟨t, p, ks, m, d, rfl, hp, hf, hw, hm, hd, q⟩ := h
  have hfl := few_len hf
  cases hu : t.isUse with
  | false =>
    cases t with
    | name k =>
      simp only [Tm.enc] at q ⊢
      walk_at "d"
      refine rv_niT rfl (by decide +kernel) ?_
      walk_at "d"
      exact q M .refl hp
    | num k =>
      simp only [Tm.enc] at q ⊢
      walk_at "d"
      refine rv_niT rfl (by decide +kernel) ?_
      walk_at "d"
      exact q M .refl hp
    | «at» k =>
      simp only [Tm.enc] at q ⊢
      walk_at "d"
      refine rv_niL (x := natD k) hp rfl (flat_nats _) ?_
      rw [inD_nats]
      walk_at "d"
      by_cases hk : k ∈ ks
      · refine br_f (by rw [decide_eq_true hk]; rfl) ?_
        walk_at "d"
        have e : (Tm.at k).atsF ks = ks := if_pos hk
        rw [e] at q
        exact q M .refl hp
      · refine br_t (by rw [decide_eq_false hk]; rfl) ?_
        walk_at "d"
        refine we_append (we_var rfl ⟨p, rfl, ⟨_, hp⟩, ?_⟩)
        walk_at "d"
        refine ⟨_, hp, by rw [List.length_map]; omega, ?_⟩
        walk_at "d"
        have e : (Tm.at k).atsF ks = ks ++ [k] := if_neg hk
        rw [e] at q
        refine q _ .put ?_
        rw [mupd_same, List.map_append]
        rfl
    | _ => cases hu
  | true =>
    rw [Tm.enc_use hu]
    walk_at "d"
    refine rv_niT rfl (by decide +kernel) ?_
    walk_at "d"
    refine br_t (by rw [use_in3 hu]; rfl) ?_
    refine ws_forParts (t := t) (fun n ds' M' => MExB p M M' ∧ M' p = some (.lst ((atsN t ks n).map natD)) ∧ ∃ a, ds' = [some (.tup (.str t.word :: t.parts.map Tm.enc)), some (.adr p), a]) rfl ⟨.refl, hp, none, rfl⟩ ?_ ?_
    · rintro n r ds' M2 hr ⟨hM, hp2, a, rfl⟩
      walk_at "d"
      have hmem := List.mem_of_getElem? hr
      have hpl : n < t.parts.length := (List.getElem?_eq_some_iff.mp hr).1
      have hz : t.zipPB[n]? = some (r, t.binds[n]'(by rw [Tm.binds_len]; exact hpl)) := by
        unfold Tm.zipPB
        rw [List.getElem?_zip_eq_some]
        exact ⟨hr, List.getElem?_eq_getElem _⟩
      have h5 := Tm.wf_part hw _ (List.mem_of_getElem? hz)
      refine ⟨r, p, _, m, _, rfl, hp2, few_atsN hw n hf, h5, hm, by have := Tm.dep_part hmem; omega, fun M' h h' => ⟨hM.trans h, ?_, _, rfl⟩⟩
      rw [atsN_succ hr]
      exact h'
    · rintro ds' M2 ⟨hM, hp2, a, rfl⟩
      rw [atsN_end hu] at hp2
      walk_at "d"
      exact q M2 hM hp2
theorem cal__law_met (G : Glb K mg) {L n : Nat} (c__law_ats : Cal P w K mg base L "_law_ats" (T_ats n) []) : Cal P w K mg base (L + 1) "_law_met" (T_met n) [] := by
  refine cal_mk (ps := ["_law_program_here"]) G.d__law_met (fun _ _ _ _ _ _ us hl => match us, hl with | [_], _ => rfl) sc__law_met (fun xs M Q h => by obtain ⟨bs, t, rfl, _⟩ := h; rfl) fun f cdv A outer s H E hr => ⟨_, (pss_cons (ps_set (i := 1) sc__law_met.nd rfl (.inl rfl) (pe_cal c__law_ats hr (by omega) ⟨rfl, rfl, rfl, rfl, rfl⟩ rfl (pa_cons (pe_ix (ix_tupK (K := K) rfl) (pv 0) pe_int (fun _ _ => rfl)) (pa_cons (pe_lst pa_nil) pa_nil))))
      (pss_cons (ps_for PassesOwn.never rfl (pi_range1 rfl G.b_range (pa_cons (pe_callB (call_lenK (K := K) rfl) (by rfl) G.b_len PySem.boot_len (pa_cons (pe_ix (ix_tupK (K := K) rfl) (pv 0) pe_int (fun _ _ => rfl)) pa_nil)) pa_nil)) (pg_name (i := 2) sc__law_met.nd rfl (.inl rfl))
        (pss_one (ps_if (pt_cmpR op_lt (pv 2) (pe_callB (call_lenK (K := K) rfl) (by rfl) G.b_len PySem.boot_len (pa_cons (pv 1) pa_nil)) (nomark _))
          (pss_one (ps_expr (pe_cal c__law_ats hr (by omega) ⟨rfl, rfl, rfl, rfl, rfl⟩ rfl (pa_cons (pe_ix (ix_tupK (K := K) rfl) (pe_ix (ix_tupK (K := K) rfl) (pv 0) pe_int (fun _ _ => rfl)) (pe_ix (ix_listK (K := K) rfl) (pv 1) (pv 2) (fun _ _ => rfl)) (fun _ _ => rfl)) (pa_cons (pv 1) pa_nil)))))
          pss_nil)))
      (pss_one (ps_ret (pv 1))))), fun xs M Q h => ?_⟩
  obtain ⟨bs, t, rfl, hw, hd, hm, q⟩ := h
  unfold encP
  walk_at "d"
  intro p np
  walk_at "d"
  refine ⟨t, p, [], bs.length, 0, rfl, mupd_same, ⟨List.nodup_nil, fun k hk => by cases hk⟩, hw.tm, hm, hd t (List.mem_cons_self ..), fun M2 h2 h3 => ?_⟩
  have mx0 : MEx M M2 := fun a o h => h2 a o (fun z => by rw [z, np] at h; cases h) (MEx.new np a o h)
  walk_at "d"
  refine ws_forR bs.length (fun i ds' M' => MEx M M' ∧ M' p = some (.lst ((metN bs t i).map natD)) ∧ ∃ a, ds' = [some (.tup [.tup (bs.map Tm.enc), t.enc]), some (.adr p), a]) ?_ ?_ ?_
  · walk_at "d"
    refine rl_lenT ?_
    walk_at "d"
    exact ⟨by rw [List.length_map], by omega, mx0, h3, none, rfl⟩
  · rintro i ds' M' hi ⟨mx, hp, a, rfl⟩
    have hok := metN_ok hw i
    walk_at "d"
    refine rl_lenL hp ?_
    walk_at "d"
    rw [List.length_map]
    by_cases hlt : i < (metN bs t i).length
    · refine br_t (decide_eq_true (by omega)) ?_
      have ek : (metN bs t i)[i]? = some (metN bs t i)[i] := List.getElem?_eq_getElem hlt
      have hk := hok.2 _ (List.getElem_mem hlt)
      obtain ⟨eb, hbm⟩ := bx_mem hk
      walk_at "d"
      refine rv_ixL hp (atI_nat (j := i) (by rw [List.getElem?_map, ek]; rfl)) ?_
      unfold natD
      refine rv_ixT (atI_nat (by rw [List.getElem?_map, eb]; rfl)) ?_
      walk_at "d"
      refine ⟨_, p, _, bs.length, 0, rfl, hp, hok, (hw.bx _ hbm).1, hm, hd _ (List.mem_cons_of_mem _ hbm), fun M3 h4 h5 => ?_⟩
      refine ⟨fun a o h => h4 a o (fun z => by rw [z, np] at h; cases h) (mx a o h), ?_, _, rfl⟩
      rw [metN_succ]
      unfold stepM
      rw [ek]
      exact h5
    · refine br_f (decide_eq_false (by omega)) ?_
      walk_at "d"
      refine ⟨mx, ?_, _, rfl⟩
      rw [metN_stop (Nat.le_of_not_lt hlt) (i + 1) (Nat.le_succ _)]
      exact hp
  · rintro ds' M' ⟨mx, hp, a, rfl⟩
    walk_at "d"
    exact q M' p mx hp
theorem idxOf_nat (ks : List Nat) (k : Nat) : (ks.map fun n => ((n : Nat) : Int)).idxOf (k : Int) = ks.idxOf k := by
  induction ks with
  | nil => rfl
  | cons j ks ih =>
    rw [List.map_cons, List.idxOf_cons, List.idxOf_cons, ih]
    have e : (((j : Int) == (k : Int)) : Bool) = (j == k) := by
      rw [Bool.eq_iff_iff, beq_iff_eq, beq_iff_eq]
      exact ⟨fun h => by omega, fun h => by omega⟩
    rw [e]
theorem step__law_renumbered (G : Glb K mg) {n : Nat} (c__law_renumbered : Cal P w K mg base n "_law_renumbered" (T_renum n) []) : Cal P w K mg base (n + 1) "_law_renumbered" (T_renum (n + 1)) [] := by
  refine cal_mk (ps := ["_law_term", "_law_order"]) G.d__law_renumbered (fun _ _ _ _ _ _ us hl => match us, hl with | [_, _], _ => rfl) sc__law_renumbered (fun xs M Q h => by obtain ⟨t, p, ks, rfl, _⟩ := h; rfl) fun f cdv A outer s H E hr => ⟨_, (pss_cons (ps_if (pt_cmpR op_eq (pe_ix (ix_tupK (K := K) rfl) (pv 0) pe_int (fun _ _ => rfl)) pe_str (nomark _))
        (pss_one (ps_ret (pe_tup (pa_cons pe_str (pa_cons (pe_bmK (K := K) rfl PySem.F.plainAttrs_list PySem.F.slot_list_index PySem.F.type_list_index (mt_indexK (K := K) rfl) (pv 1) (pa_cons (pe_ix (ix_tupK (K := K) rfl) (pv 0) pe_int (fun _ _ => rfl)) pa_nil)) pa_nil)))))
        pss_nil)
      (pss_cons (ps_if (pt_cmpR (op_inK (K := K) rfl) (pe_ix (ix_tupK (K := K) rfl) (pv 0) pe_int (fun _ _ => rfl)) (pe_tup (pa_cons pe_str (pa_cons pe_str pa_nil))) (by rfl))
        (pss_one (ps_ret (pv 0)))
        pss_nil)
      (pss_one (ps_ret (pe_op (op_catK (K := K) rfl) (pe_tup (pa_cons (pe_ix (ix_tupK (K := K) rfl) (pv 0) pe_int (fun _ _ => rfl)) pa_nil)) (pe_tupleK (K := K) rfl rfl G.b_tuple (pe_lc (own := [("_law_part_here", 2)]) (by rfl) sc__law_renumbered.nd (pi_tupK (K := K) rfl (pe_slice (sl_tupK (K := K) rfl) (pv 0) (po_some pe_int) po_none)) (blkOk_by (N := ["_law_term", "_law_order", "_law_part_here"]) (sc := defScope s__law_renumbered) (by decide +kernel)) (fun _ _ _ _ _ => (pg_name (i := 2) sc__law_renumbered.nd rfl (.inl rfl))) (fun _ _ _ _ _ => pts_nil) (fun _ _ _ _ _ => (pe_cal c__law_renumbered hr (by omega) ⟨rfl, rfl, rfl, rfl, rfl⟩ rfl (pa_cons (pv 2) (pa_cons (pv 1) pa_nil))))))))))), fun xs M Q h => ?_⟩
  obtain ⟨t, p, ks, rfl, hp, hk, hd, q⟩ := h
  cases hu : t.isUse with
  | false =>
    cases t with
    | name k =>
      simp only [Tm.enc] at q ⊢
      walk_at "d"
      exact q M .refl
    | num k =>
      simp only [Tm.enc] at q ⊢
      walk_at "d"
      exact q M .refl
    | «at» k =>
      simp only [Tm.enc] at q ⊢
      walk_at "d"
      refine we_index (we_var rfl ⟨p, rfl, ⟨_, hp⟩, ?_⟩)
      walk_at "d"
      refine ⟨ks.map fun n => ((n : Nat) : Int), _, rfl, by rw [hp, List.map_map]; rfl, List.mem_map.mpr ⟨k, hk k (by simp [Tm.has]), rfl⟩, ?_⟩
      walk_at "d"
      rw [idxOf_nat]
      exact q M .refl
    | _ => cases hu
  | true =>
    rw [Tm.enc_use hu]
    walk_at "d"
    refine br_f (use_in4 hu) ?_
    walk_at "d"
    refine we_lcParts (t := t) (fun p => (p.renum ks).enc) rfl rfl ?_ ?_
    · intro r hr M2 hM
      walk_at "d"
      exact ⟨r, p, ks, rfl, hM _ _ hp, fun k h => hk k (has_part hr h), by have := Tm.dep_part hr; omega, fun M' h => ⟨h, rfl⟩⟩
    · intro r M2 hM hr
      refine ru_tupL hr ?_
      refine rv_catT (by have := parts_3 t; simp; omega) ?_
      walk_at "d"
      have e := Tm.enc_mapP1 hu (f := fun p => p.renum ks)
      rw [← Tm.renum_use hu] at e
      have q' := q M2 hM
      rw [e] at q'
      exact q'
theorem cal__law_tidied (G : Glb K mg) {L n : Nat} (c__law_met : Cal P w K mg base L "_law_met" (T_met n) []) (c__law_renumbered : Cal P w K mg base L "_law_renumbered" (T_renum n) []) : Cal P w K mg base (L + 1) "_law_tidied" (T_tidy n) [] := by
  refine cal_mk (ps := ["_law_program_here"]) G.d__law_tidied (fun _ _ _ _ _ _ us hl => match us, hl with | [_], _ => rfl) sc__law_tidied (fun xs M Q h => by obtain ⟨t, m, rfl, _⟩ := h; rfl) fun f cdv A outer s H E hr => ⟨_, (pss_cons (ps_set (i := 1) sc__law_tidied.nd rfl (.inr rfl) (pe_cal c__law_met hr (by omega) ⟨rfl, rfl, rfl, rfl, rfl⟩ rfl (pa_cons (pv 0) pa_nil)))
      (pss_one (ps_ret (pe_tup (pa_cons (pe_tupleK (K := K) rfl rfl G.b_tuple (pe_lc (own := [("_law_box", 2)]) (by rfl) sc__law_tidied.nd (pi_listK (K := K) rfl (pv 1)) (blkOk_by (N := ["_law_program_here", "_law_order", "_law_box"]) (sc := defScope s__law_tidied) (by decide +kernel)) (fun _ _ _ _ _ => (pg_name (i := 2) sc__law_tidied.nd rfl (.inl rfl))) (fun _ _ _ _ _ => pts_nil) (fun _ _ _ _ _ => (pe_cal c__law_renumbered hr (by omega) ⟨rfl, rfl, rfl, rfl, rfl⟩ rfl (pa_cons (pe_ix (ix_tupK (K := K) rfl) (pe_ix (ix_tupK (K := K) rfl) (pv 0) pe_int (fun _ _ => rfl)) (pv 2) (fun _ _ => rfl)) (pa_cons (pv 1) pa_nil)))))) (pa_cons (pe_cal c__law_renumbered hr (by omega) ⟨rfl, rfl, rfl, rfl, rfl⟩ rfl (pa_cons (pe_ix (ix_tupK (K := K) rfl) (pv 0) pe_int (fun _ _ => rfl)) (pa_cons (pv 1) pa_nil))) pa_nil)))))), fun xs M Q h => ?_⟩
  obtain ⟨bs, t, rfl, hw, hb, hs, q⟩ := h
  have hlen : (met bs t).length ≤ bs.length := metN_len hw _
  walk_at "d"
  refine ⟨bs, t, rfl, hw, hb, hs, fun M2 p h2 hp => ?_⟩
  unfold encP
  walk_at "d"
  refine we_lcV (met bs t) natD (fun k => ((bx bs k).renum (met bs t)).enc) rfl ?_ (by omega) ?_ ?_
  · walk_at "d"
    exact ⟨hp, .refl⟩
  · intro k hk M4 h4
    have hlt := met_lt hw hk
    obtain ⟨eb, hbm⟩ := bx_mem hlt
    unfold natD
    walk_at "d"
    refine rv_ixT (atI_nat (by rw [List.getElem?_map, eb]; rfl)) ?_
    walk_at "d"
    exact ⟨bx bs k, p, met bs t, rfl, h4 _ _ hp, fun j hj => met_closed hw hk hj, hb _ (List.mem_cons_of_mem _ hbm), fun M5 h5 => ⟨h5, rfl⟩⟩
  · intro v M4 h4 hv
    refine ru_tupL hv ?_
    walk_at "d"
    refine ⟨t, p, met bs t, rfl, h4 _ _ hp, fun j hj => met_has hj, hb _ (List.mem_cons_self ..), fun M5 h5 => ?_⟩
    walk_at "d"
    have q' := q M5 ((h2.trans h4).trans h5)
    unfold encP tidyB tidyT at q'
    rw [List.map_map] at q'
    exact q'
end
end FS
set_option maxHeartbeats 4000000
namespace FS
open PySem PySem.Spec PyProof.Rows L2
local macro_rules | `(tactic| walk_at "t") => `(tactic| exact use_hole (by assumption))
local macro_rules | `(tactic| walk_at "t") => `(tactic| exact use_at (by assumption))
local macro_rules | `(tactic| walk_at "t") => `(tactic| exact use_name (by assumption))
local macro_rules | `(tactic| walk_at "t") => `(tactic| exact use_num (by assumption))
local macro_rules | `(tactic| walk_at "t") => `(tactic| exact leaf_leaves (by assumption))
local macro_rules | `(tactic| walk_at "t") => `(tactic| exact use_leaves (by assumption))
local macro_rules | `(tactic| walk_at "t") => `(tactic| assumption)
local macro_rules | `(tactic| walk_at "t") => `(tactic| decide +kernel)
local macro_rules | `(tactic| walk_at "t") => `(tactic| rfl)
local macro_rules | `(tactic| walk_at "d1") => `(tactic| (with_reducible refine ⟨_, _, _, rfl, ?_⟩))
local macro_rules | `(tactic| walk_at "d1") => `(tactic| (with_reducible refine ⟨_, _, rfl, ?_⟩))
local macro_rules | `(tactic| walk_at "d1") => `(tactic| ((with_reducible refine rv_fdiv ?h1 ?_); (case h1 => exact ⟨by decide, by decide⟩)))
local macro_rules | `(tactic| walk_at "d1") => `(tactic| ((with_reducible refine rv_mod ?h1 ?_); (case h1 => (show (0 : Int) < _; decide))))
local macro_rules | `(tactic| walk_at "d1") => `(tactic| (with_reducible refine we_call (dxs := [.int 0]) (fun H => .cons (.int 0) .nil) ?_))
local macro_rules | `(tactic| walk_at "d1") => `(tactic| ((with_reducible refine' we_c ?h1 ?_); (case h1 => assumption)))
local macro_rules | `(tactic| walk_at "d1") => `(tactic| (with_reducible refine wt_yes ?_))
local macro_rules | `(tactic| walk_at "d1") => `(tactic| (with_reducible refine wg_name ?_))
local macro_rules | `(tactic| walk_at "d1") => `(tactic| (with_reducible refine rv_ix3 ?_))
local macro_rules | `(tactic| walk_at "d1") => `(tactic| (with_reducible refine rv_ix2 ?_))
local macro_rules | `(tactic| walk_at "d1") => `(tactic| (with_reducible refine rv_notN ?_))
local macro_rules | `(tactic| walk_at "d1") => `(tactic| (with_reducible refine rv_isN ?_))
local macro_rules | `(tactic| walk_at "d1") => `(tactic| (with_reducible refine rv_neS ?_))
local macro_rules | `(tactic| walk_at "d1") => `(tactic| (with_reducible refine rv_ge ?_))
local macro_rules | `(tactic| walk_at "d1") => `(tactic| (with_reducible refine rv_gt ?_))
local macro_rules | `(tactic| walk_at "d1") => `(tactic| (with_reducible refine rv_le ?_))
local macro_rules | `(tactic| walk_at "d1") => `(tactic| (with_reducible refine rv_sub ?_))
local macro_rules | `(tactic| walk_at "d1") => `(tactic| (with_reducible refine wo_some ?_))
local macro_rules | `(tactic| walk_at "d1") => `(tactic| (with_reducible refine wo_none ?_))
local macro_rules | `(tactic| walk_at "d1") => `(tactic| (with_reducible refine we_then ?_))
local macro_rules | `(tactic| walk_at "d1") => `(tactic| (with_reducible refine we_un ?_))
local macro_rules | `(tactic| walk_at "d1") => `(tactic| (with_reducible refine we_chain ?_))
local macro_rules | `(tactic| walk_at "d1") => `(tactic| (with_reducible refine we_if ?_))
local macro_rules | `(tactic| walk_at "d1") => `(tactic| (with_reducible refine we_not ?_))
local macro_rules | `(tactic| walk_at "d1") => `(tactic| (with_reducible refine we_or ?_))
local macro_rules | `(tactic| walk_at "d1") => `(tactic| (with_reducible refine we_and ?_))
local macro_rules | `(tactic| walk_at "d1") => `(tactic| (with_reducible refine wt_not ?_))
local macro_rules | `(tactic| walk_at "d1") => `(tactic| (with_reducible refine wt_B ?_))
local macro_rules | `(tactic| walk_at "d1") => `(tactic| (with_reducible refine we_slT ?_))
local macro_rules | `(tactic| walk_at "d1") => `(tactic| (with_reducible refine we_lst ?_))
local macro_rules | `(tactic| walk_at "d1") => `(tactic| (with_reducible refine we_ty ?_))
local macro_rules | `(tactic| walk_at "d1") => `(tactic| (with_reducible refine we_non ?_))
local macro_rules | `(tactic| walk_at "d1") => `(tactic| (with_reducible refine we_bl ?_))
local macro_rules | `(tactic| walk_at "d1") => `(tactic| (with_reducible refine ws_asg ?_))
local macro_rules | `(tactic| walk_at "d1") => `(tactic| (with_reducible refine ws_par3 ?_))
local macro_rules | `(tactic| walk_at "d1") => `(tactic| (with_reducible refine ws_par ?_))
local macro_rules | `(tactic| walk_at "d1") => `(tactic| (with_reducible refine ws_drop ?_))
local macro_rules | `(tactic| walk_at "d1") => `(tactic| (with_reducible refine ru_neg ?_))
local macro_rules | `(tactic| walk_at "d1") => `(tactic| (with_reducible refine rl_isi_bb ?_))
local macro_rules | `(tactic| walk_at "d1") => `(tactic| (with_reducible refine rl_isi_bt ?_))
local macro_rules | `(tactic| walk_at "d1") => `(tactic| (with_reducible refine rl_isi_sb ?_))
local macro_rules | `(tactic| walk_at "d1") => `(tactic| (with_reducible refine rl_isi_st ?_))
local macro_rules | `(tactic| walk_at "d1") => `(tactic| (with_reducible refine rl_isi_is ?_))
local macro_rules | `(tactic| walk_at "d1") => `(tactic| (with_reducible refine rl_isi_it ?_))
local macro_rules | `(tactic| walk_at "d1") => `(tactic| (with_reducible refine rl_isi_ib ?_))
local macro_rules | `(tactic| walk_at "d1") => `(tactic| (with_reducible refine rl_isi_ii ?_))
local macro_rules | `(tactic| walk_at "d1") => `(tactic| (with_reducible refine rl_isi_ss ?_))
local macro_rules | `(tactic| walk_at "d1") => `(tactic| (with_reducible refine rl_isi_tt ?_))
local macro_rules | `(tactic| walk_at "d1") => `(tactic| (with_reducible refine rl_abs ?_))
local macro_rules | `(tactic| walk_at "d1") => `(tactic| (with_reducible refine rl_int ?_))
local macro_rules | `(tactic| walk_at "d1") => `(tactic| (with_reducible refine wt_or ?_))
local macro_rules | `(tactic| walk_at "d1") => `(tactic| (with_reducible refine rv_lt ?_))
local macro_rules | `(tactic| walk_at "d1") => `(tactic| (with_reducible refine rv_add ?_))
local macro_rules | `(tactic| walk_at "d1") => `(tactic| (with_reducible refine we_cb ?_))
local macro_rules | `(tactic| walk_at "d1") => `(tactic| (with_reducible refine ws_set ?_))
local macro_rules | `(tactic| walk_at "d1") => `(tactic| (with_reducible refine rv_ix1 ?_))
local macro_rules | `(tactic| walk_at "d1") => `(tactic| (with_reducible refine wt_and ?_))
local macro_rules | `(tactic| walk_at "d1") => `(tactic| (with_reducible refine we_call0 ?_))
local macro_rules | `(tactic| walk_at "d1") => `(tactic| ((with_reducible refine br_t ?h1 ?_); (case h1 => walk_at "t")))
local macro_rules | `(tactic| walk_at "d1") => `(tactic| ((with_reducible refine rv_inT ?a1 ?a2 ?_); (case a1 => rfl); (case a2 => first | rfl | decide +kernel)))
local macro_rules | `(tactic| walk_at "d1") => `(tactic| ((with_reducible refine len_and ?h1 ?_); (case h1 => first | decide | (simp; done) | (simp; omega))))
local macro_rules | `(tactic| walk_at "d1") => `(tactic| ((with_reducible refine br_f ?h1 ?_); (case h1 => walk_at "t")))
local macro_rules | `(tactic| walk_at "d1") => `(tactic| (with_reducible refine ⟨_, rfl, ?_⟩))
local macro_rules | `(tactic| walk_at "d1") => `(tactic| (with_reducible refine ws_ret ?_))
local macro_rules | `(tactic| walk_at "d1") => `(tactic| (with_reducible refine rv_eqS ?_))
local macro_rules | `(tactic| walk_at "d1") => `(tactic| (with_reducible refine we_tup ?_))
local macro_rules | `(tactic| walk_at "d1") => `(tactic| (with_reducible refine rv_ix0 ?_))
local macro_rules | `(tactic| walk_at "d1") => `(tactic| (with_reducible refine ws_next ?_))
local macro_rules | `(tactic| walk_at "d1") => `(tactic| (with_reducible refine ws_if ?_))
local macro_rules | `(tactic| walk_at "d1") => `(tactic| (with_reducible refine wt_test ?_))
local macro_rules | `(tactic| walk_at "d1") => `(tactic| (with_reducible refine ws_seq ?_))
local macro_rules | `(tactic| walk_at "d1") => `(tactic| (with_reducible refine wa_nil ?_))
local macro_rules | `(tactic| walk_at "d1") => `(tactic| (with_reducible refine we_int ?_))
local macro_rules | `(tactic| walk_at "d1") => `(tactic| (with_reducible refine we_str ?_))
local macro_rules | `(tactic| walk_at "d1") => `(tactic| (with_reducible refine we_op ?_))
local macro_rules | `(tactic| walk_at "d1") => `(tactic| ((with_reducible refine' we_var ?h1 ?_); (case h1 => exact rfl)))
local macro_rules | `(tactic| walk_at "d1") => `(tactic| (with_reducible refine wa_cons ?_))
local macro_rules | `(tactic| walk_at "d") => `(tactic| repeat (walk_at "d1"))
theorem sc__law_place : FnScope ["_law_term", "_law_at"] ["_law_term"] (defScope s__law_place) := ⟨rfl, rfl, rfl, by decide +kernel, rfl, by decide +kernel, by decide +kernel⟩
theorem sc__law_reckoned : FnScope ["_law_word", "_law_one", "_law_two"] ["_law_word", "_law_one", "_law_two"] (defScope s__law_reckoned) := ⟨rfl, rfl, rfl, by decide +kernel, rfl, by decide +kernel, by decide +kernel⟩
theorem sc__law_here : FnScope ["_law_boxes", "_law_term", "_law_word", "_law_one", "_law_two", "_law_found"] ["_law_boxes", "_law_term"] (defScope s__law_here) := ⟨rfl, rfl, rfl, by decide +kernel, rfl, by decide +kernel, by decide +kernel⟩
theorem looks_in {t : Tm} (h : t.isUse = true) (hv : t.isVal = false) : (inD (.str t.word) [.str "first", .str "second", .str "box", .str "look", .str "say", .str "test"] = true ∧ t.looks = 1) ∨ (inD (.str t.word) [.str "first", .str "second", .str "box", .str "look", .str "say", .str "test"] = false ∧ t.looks = 2) := by
  have e1 : ∀ w : W1, w ≠ .fn → w ≠ .again → inD (.str w.s) [.str "first", .str "second", .str "box", .str "look", .str "say", .str "test"] = true := fun w h1 h2 => by
    cases w <;> first | decide +kernel | exact absurd rfl h1 | exact absurd rfl h2
  have e2 : ∀ w : W2, inD (.str w.s) [.str "first", .str "second", .str "box", .str "look", .str "say", .str "test"] = false := fun w => by cases w <;> decide +kernel
  cases t with
  | u1 w a => exact .inl ⟨e1 w (fun e => by subst e; cases hv) (fun e => by subst e; cases hv), rfl⟩
  | u2 w a b => exact .inr ⟨e2 w, rfl⟩
  | u3 a b c => exact .inl ⟨(by decide +kernel : inD (.str "test") [.str "first", .str "second", .str "box", .str "look", .str "say", .str "test"] = true), rfl⟩
  | _ => cases h
section
variable {P : Program} {w : World} {K : PySem.W.Frag} {mg : Str → Option Value} {base : Heap}
theorem step__law_place (G : Glb K mg) {L n : Nat} (hn1 : n ≤ 1000) (c__law_is_value : Cal P w K mg base L "_law_is_value" (S_isval (n + 1)) []) (c__law_place : Cal P w K mg base (n + L) "_law_place" (S_place n) []) : Cal P w K mg base (n + L + 1) "_law_place" (S_place (n + 1)) [] := by
  refine cal_mk (ps := ["_law_term"]) G.d__law_place (fun _ _ _ _ _ _ us hl => match us, hl with | [_], _ => rfl) sc__law_place (fun xs M Q h => by obtain ⟨t, rfl, _⟩ := h; rfl) fun f cdv A outer s H E hr => ⟨_, (pss_cons (ps_if (pt_val (pe_cal c__law_is_value hr (by omega) ⟨rfl, rfl, rfl, rfl, rfl⟩ rfl (pa_cons (pv 0) pa_nil)))
        (pss_one (ps_ret pe_non))
        pss_nil)
      (pss_cons (ps_for PassesOwn.never rfl (pi_range1 rfl G.b_range (pa_cons (pe_ifExp (pt_cmpR (op_inK (K := K) rfl) (pe_ix (ix_tupK (K := K) rfl) (pv 0) pe_int (fun _ _ => rfl)) (pe_tup (pa_cons pe_str (pa_cons pe_str (pa_cons pe_str (pa_cons pe_str (pa_cons pe_str (pa_cons pe_str pa_nil))))))) (by rfl)) pe_int pe_int) pa_nil)) (pg_name (i := 1) sc__law_place.nd rfl (.inl rfl))
        (pss_one (ps_if (pt_not (pt_val (pe_cal c__law_is_value hr (by omega) ⟨rfl, rfl, rfl, rfl, rfl⟩ rfl (pa_cons (pe_ix (ix_tupK (K := K) rfl) (pv 0) (pe_op op_add (pv 1) pe_int) (fun _ _ => rfl)) pa_nil))))
          (pss_one (ps_ret (pe_op (op_catK (K := K) rfl) (pe_tup (pa_cons (pv 1) pa_nil)) (pe_cal c__law_place hr (by omega) ⟨rfl, rfl, rfl, rfl, rfl⟩ rfl (pa_cons (pe_ix (ix_tupK (K := K) rfl) (pv 0) (pe_op op_add (pv 1) pe_int) (fun _ _ => rfl)) pa_nil)))))
          pss_nil)))
      (pss_one (ps_ret (pe_tup pa_nil))))), fun xs M Q h => ?_⟩
  obtain ⟨t, rfl, hc, hd, q⟩ := h
  walk_at "d"
  refine ⟨t, rfl, hd, fun M2 h2 => ?_⟩
  walk_at "d"
  refine ⟨fun e => ?_, fun e => ?_⟩
  · walk_at "d"
    rw [Tm.place_val e] at q
    exact q M2 h2
  have hu := use_of hc e
  rw [Tm.enc_use hu]
  walk_at "d"
  refine ws_forR t.looks (fun n ds' M' => MEx M M' ∧ (∀ j < n, t.placeAt j = none) ∧ ∃ a, ds' = [some (.tup (.str t.word :: t.parts.map Tm.enc)), a]) ?_ ?_ ?_
  · walk_at "d"
    rcases looks_in hu e with ⟨e1, e2⟩ | ⟨e1, e2⟩
    · refine br_t e1 ?_
      walk_at "d"
      rw [e2]
      exact ⟨rfl, by decide, h2, fun j hj => absurd hj (Nat.not_lt_zero _), none, rfl⟩
    · refine br_f e1 ?_
      walk_at "d"
      rw [e2]
      exact ⟨rfl, by decide, h2, fun j hj => absurd hj (Nat.not_lt_zero _), none, rfl⟩
  · rintro k ds' M' hkl ⟨mx, hn, a, rfl⟩
    obtain ⟨p, hp⟩ := looks_lt hkl
    have e2 : ((k : Int) + 1) = ((k + 1 : Nat) : Int) := by omega
    have hpc := looks_cl e hkl hp hc
    have hpd := Tm.dep_part (List.mem_of_getElem? hp)
    have hpa : t.placeAt k = p.place := by unfold Tm.placeAt; rw [hp]; rfl
    walk_at "d"
    rw [e2]
    refine rv_ixT (d := p.enc) (atI_nat (by rw [List.getElem?_cons_succ, List.getElem?_map, hp]; rfl)) ?_
    walk_at "d"
    refine ⟨p, rfl, by omega, fun M3 h3 => ?_⟩
    walk_at "d"
    cases ev : p.isVal with
    | true =>
      refine br_f rfl ?_
      walk_at "d"
      exact ⟨mx.trans h3, fun j hj => (Nat.lt_succ_iff_lt_or_eq.mp hj).elim (hn j) fun z => by rw [z, hpa, Tm.place_val ev], _, rfl⟩
    | false =>
      cases ep : p.place with
      | none =>
        have := Tm.place_none hpc ep
        rw [ev] at this
        cases this
      | some pl =>
        refine br_t rfl ?_
        walk_at "d"
        rw [e2]
        refine rv_ixT (d := p.enc) (atI_nat (by rw [List.getElem?_cons_succ, List.getElem?_map, hp]; rfl)) ?_
        walk_at "d"
        refine ⟨p, rfl, hpc, by omega, fun M4 h4 => ?_⟩
        rw [ep]
        rw [Tm.place_hit e hkl hn (hpa.trans ep)] at q
        have hpl := Tm.place_len p ep
        simp only [plO, plD] at q ⊢
        refine rv_catT (by simp; omega) ?_
        exact q M4 ((mx.trans h3).trans h4)
  · rintro ds' M' ⟨mx, hn, a, rfl⟩
    walk_at "d"
    rw [Tm.place_miss hu e hn] at q
    exact q M' mx
theorem cal__law_reckoned (G : Glb K mg) : Cal P w K mg base 1 "_law_reckoned" S_summed [] := by
  refine cal_mk (ps := ["_law_word", "_law_one", "_law_two"]) G.d__law_reckoned (fun _ _ _ _ _ _ us hl => match us, hl with | [_, _, _], _ => rfl) sc__law_reckoned (fun xs M Q h => by obtain ⟨t, x, y, rfl, _⟩ := h; rfl) fun f cdv A outer s H E hr => ⟨_, (pss_cons (ps_if (pt_cmpR op_eq (pv 0) pe_str (nomark _))
        (pss_one (ps_ret (pe_op op_add (pv 1) (pv 2))))
        pss_nil)
      (pss_one (ps_ret (pe_ifExp (pt_cmpR op_eq (pv 0) pe_str (nomark _)) (pe_op op_sub (pv 1) (pv 2)) (pe_op op_mul (pv 1) (pv 2)))))), fun xs M Q h => ?_⟩
  obtain ⟨w, x, y, rfl, hw, h1, h2, h3, h4, q⟩ := h
  cases w with
  | plus =>
    walk_at "d"
    exact q M .refl
  | minus =>
    walk_at "d"
    exact q M .refl
  | times =>
    walk_at "d"
    refine rv_mul ?_ ?_
    · exact .inl ⟨by omega, by omega⟩
    exact q M .refl
  | _ => cases hw
def T_here (n : Nat) : SpD := fun xs M Q => ∃ (bs : List Tm) (u : Tm), xs = [.tup (bs.map Tm.enc), u.enc] ∧ u.redex = true ∧ u.wf bs.length 0 = true ∧ u.dep ≤ n ∧ bs.length ≤ 100000 ∧
  ∀ M', MEx M M' → (∀ z, u.fault = some z → Q (.tup [.str z, .tup (bs.map Tm.enc), u.enc, .tup []]) M') ∧ (u.fault = none → Q (.tup [.str "step", .tup ((made bs u).1.map Tm.enc), (made bs u).2.1.enc, .tup ((made bs u).2.2.map .int)]) M')
theorem pow9 : ((10 : Int) ^ (9 : Int).toNat) = 1000000000 := by decide +kernel
theorem cpow9 : CPow 10 9 := ⟨by decide, by decide, by decide +kernel⟩
theorem rv_ixm2 {K : PySem.W.Frag} {M : Mm} {Q : Dv → Mm → Prop} {x y : Dv} (q : Q y M) : RV K (rIxT K) (.tup [x, y]) (.int (-1)) M Q := rv_ixT rfl q
theorem rv_ixm3 {K : PySem.W.Frag} {M : Mm} {Q : Dv → Mm → Prop} {x y z : Dv} (q : Q z M) : RV K (rIxT K) (.tup [x, y, z]) (.int (-1)) M Q := rv_ixT rfl q
theorem rv_ixm4 {K : PySem.W.Frag} {M : Mm} {Q : Dv → Mm → Prop} {x y z u : Dv} (q : Q u M) : RV K (rIxT K) (.tup [x, y, z, u]) (.int (-1)) M Q := rv_ixT rfl q
theorem cal__law_here (G : Glb K mg) {L n : Nat} (hL : 1 ≤ L) (c__law_put_in : Cal P w K mg base L "_law_put_in" (T_put n n) []) (c__law_reckoned : Cal P w K mg base 1 "_law_reckoned" S_summed []) : Cal P w K mg base (L + 1) "_law_here" (T_here n) [] := by
  refine cal_mk (ps := ["_law_boxes", "_law_term"]) G.d__law_here (fun _ _ _ _ _ _ us hl => match us, hl with | [_, _], _ => rfl) sc__law_here (fun xs M Q h => by obtain ⟨t, m, rfl, _⟩ := h; rfl) fun f cdv A outer s H E hr => ⟨_, (pss_cons (ps_par3 (i := 2) (j := 3) (l := 4) (by rfl) sc__law_here.nd rfl rfl rfl (by decide) (by decide) (by decide) rfl rfl rfl (pa_cons (pe_ix (ix_tupK (K := K) rfl) (pv 1) pe_int (fun _ _ => rfl)) (pa_cons (pe_ix (ix_tupK (K := K) rfl) (pv 1) pe_int (fun _ _ => rfl)) (pa_cons (pe_ix (ix_tupK (K := K) rfl) (pv 1) (pe_un un_neg pe_int) (fun _ _ => rfl)) pa_nil))) (by rfl))
      (pss_cons (ps_if (PW.pt (pw_and (pt_cmpR op_eq (pv 2) pe_str (nomark _)) (pw_and1 (pt_cmpR (op_inK (K := K) rfl) (pe_ix (ix_tupK (K := K) rfl) (pv 3) pe_int (fun _ _ => rfl)) (pe_tup (pa_cons pe_str (pa_cons pe_str pa_nil))) (by rfl)))))
        (pss_one (ps_ret (pe_tup (pa_cons pe_str (pa_cons (pv 0) (pa_cons (pe_cal c__law_put_in hr (by omega) ⟨rfl, rfl, rfl, rfl, rfl⟩ rfl (pa_cons (pe_tup pa_nil) (pa_cons (pe_ix (ix_tupK (K := K) rfl) (pv 3) pe_int (fun _ _ => rfl)) (pa_cons (pe_ifExp (pt_cmpR op_eq (pe_ix (ix_tupK (K := K) rfl) (pv 3) pe_int (fun _ _ => rfl)) pe_str (nomark _)) (pe_tup (pa_cons (pv 4) pa_nil)) (pe_tup (pa_cons (pv 4) (pa_cons (pv 3) pa_nil)))) (pa_cons pe_int pa_nil))))) (pa_cons (pe_tup pa_nil) pa_nil)))))))
        pss_nil)
      (pss_cons (ps_if (PW.pt (pw_and (pt_cmpR (op_inK (K := K) rfl) (pv 2) (pe_tup (pa_cons pe_str (pa_cons pe_str pa_nil))) (by rfl)) (pw_and1 (pt_cmpR op_eq (pe_ix (ix_tupK (K := K) rfl) (pv 3) pe_int (fun _ _ => rfl)) pe_str (nomark _)))))
        (pss_one (ps_ret (pe_tup (pa_cons pe_str (pa_cons (pv 0) (pa_cons (pe_ifExp (pt_cmpR op_eq (pv 2) pe_str (nomark _)) (pe_ix (ix_tupK (K := K) rfl) (pv 3) pe_int (fun _ _ => rfl)) (pe_ix (ix_tupK (K := K) rfl) (pv 3) pe_int (fun _ _ => rfl))) (pa_cons (pe_tup pa_nil) pa_nil)))))))
        pss_nil)
      (pss_cons (ps_if (PW.pt (pw_and (pt_cmpR op_eq (pv 2) pe_str (nomark _)) (pw_and1 (pt_cmpR op_eq (pe_ix (ix_tupK (K := K) rfl) (pv 3) pe_int (fun _ _ => rfl)) pe_str (nomark _)))))
        (pss_one (ps_ret (pe_tup (pa_cons pe_str (pa_cons (pv 0) (pa_cons (pe_ifExp (pt_cmpR op_eq (pe_ix (ix_tupK (K := K) rfl) (pv 3) pe_int (fun _ _ => rfl)) pe_int (nomark _)) (pe_ix (ix_tupK (K := K) rfl) (pv 1) pe_int (fun _ _ => rfl)) (pe_ix (ix_tupK (K := K) rfl) (pv 1) pe_int (fun _ _ => rfl))) (pa_cons (pe_tup pa_nil) pa_nil)))))))
        pss_nil)
      (pss_cons (ps_if (PW.pt (pw_and (pt_cmpR (op_inK (K := K) rfl) (pv 2) (pe_tup (pa_cons pe_str (pa_cons pe_str (pa_cons pe_str pa_nil)))) (by rfl)) (pw_and (pt_cmpR op_eq (pe_ix (ix_tupK (K := K) rfl) (pv 3) pe_int (fun _ _ => rfl)) pe_str (nomark _)) (pw_and1 (pt_cmpR op_eq (pe_ix (ix_tupK (K := K) rfl) (pv 4) pe_int (fun _ _ => rfl)) pe_str (nomark _))))))
        (pss_cons (ps_set (i := 5) sc__law_here.nd rfl (.inl rfl) (pe_cal c__law_reckoned hr (by omega) ⟨rfl, rfl, rfl, rfl, rfl⟩ rfl (pa_cons (pv 2) (pa_cons (pe_ix (ix_tupK (K := K) rfl) (pv 3) pe_int (fun _ _ => rfl)) (pa_cons (pe_ix (ix_tupK (K := K) rfl) (pv 4) pe_int (fun _ _ => rfl)) pa_nil)))))
        (pss_one (ps_ret (pe_ifExp (pt_chain op_lt op_lt (pe_un un_neg (pe_op op_pow pe_int pe_int)) (pv 5) (pe_op op_pow pe_int pe_int)) (pe_tup (pa_cons pe_str (pa_cons (pv 0) (pa_cons (pe_tup (pa_cons pe_str (pa_cons (pv 5) pa_nil))) (pa_cons (pe_tup pa_nil) pa_nil))))) (pe_tup (pa_cons pe_str (pa_cons (pv 0) (pa_cons (pv 1) (pa_cons (pe_tup pa_nil) pa_nil)))))))))
        pss_nil)
      (pss_cons (ps_if (pt_cmpR op_eq (pv 2) pe_str (nomark _))
        (pss_one (ps_ret (pe_tup (pa_cons pe_str (pa_cons (pe_op (op_catK (K := K) rfl) (pv 0) (pe_tup (pa_cons (pv 3) pa_nil))) (pa_cons (pe_tup (pa_cons pe_str (pa_cons (pe_callB (call_lenK (K := K) rfl) (by rfl) G.b_len PySem.boot_len (pa_cons (pv 0) pa_nil)) pa_nil))) (pa_cons (pe_tup pa_nil) pa_nil)))))))
        pss_nil)
      (pss_cons (ps_if (PW.pt (pw_and (pt_cmpR op_eq (pv 2) pe_str (nomark _)) (pw_and1 (pt_cmpR op_eq (pe_ix (ix_tupK (K := K) rfl) (pv 3) pe_int (fun _ _ => rfl)) pe_str (nomark _)))))
        (pss_one (ps_ret (pe_tup (pa_cons pe_str (pa_cons (pv 0) (pa_cons (pe_ix (ix_tupK (K := K) rfl) (pv 0) (pe_ix (ix_tupK (K := K) rfl) (pv 3) pe_int (fun _ _ => rfl)) (fun _ _ => rfl)) (pa_cons (pe_tup pa_nil) pa_nil)))))))
        pss_nil)
      (pss_cons (ps_if (PW.pt (pw_and (pt_cmpR op_eq (pv 2) pe_str (nomark _)) (pw_and1 (pt_cmpR op_eq (pe_ix (ix_tupK (K := K) rfl) (pv 3) pe_int (fun _ _ => rfl)) pe_str (nomark _)))))
        (pss_one (ps_ret (pe_tup (pa_cons pe_str (pa_cons (pe_op (op_catK (K := K) rfl) (pe_op (op_catK (K := K) rfl) (pe_slice (sl_tupK (K := K) rfl) (pv 0) po_none (po_some (pe_ix (ix_tupK (K := K) rfl) (pv 3) pe_int (fun _ _ => rfl)))) (pe_tup (pa_cons (pv 4) pa_nil))) (pe_slice (sl_tupK (K := K) rfl) (pv 0) (po_some (pe_op op_add (pe_ix (ix_tupK (K := K) rfl) (pv 3) pe_int (fun _ _ => rfl)) pe_int)) po_none)) (pa_cons (pv 4) (pa_cons (pe_tup pa_nil) pa_nil)))))))
        pss_nil)
      (pss_cons (ps_if (PW.pt (pw_and (pt_cmpR op_eq (pv 2) pe_str (nomark _)) (pw_and1 (pt_cmpR op_eq (pe_ix (ix_tupK (K := K) rfl) (pv 3) pe_int (fun _ _ => rfl)) pe_str (nomark _)))))
        (pss_one (ps_ret (pe_tup (pa_cons pe_str (pa_cons (pv 0) (pa_cons (pv 3) (pa_cons (pe_tup (pa_cons (pe_ix (ix_tupK (K := K) rfl) (pv 3) pe_int (fun _ _ => rfl)) pa_nil)) pa_nil)))))))
        pss_nil)
      (pss_one (ps_ret (pe_tup (pa_cons pe_str (pa_cons (pv 0) (pa_cons (pv 1) (pa_cons (pe_tup pa_nil) pa_nil)))))))))))))))), fun xs M Q h => ?_⟩
  obtain ⟨bs, u, rfl, hre, hw, hd, hm, q⟩ := h
  cases u with
  | u3 a b c =>
    obtain ⟨r, er⟩ := enc_head a
    rcases num_or a with ⟨x, rfl⟩ | ha
    · simp only [Tm.enc]
      walk_at "d"
      refine rv_ixm4 ?_
      walk_at "d"
      refine rv_eqI ?_
      walk_at "d"
      have q' := (q M .refl).2 rfl
      simp only [made] at q'
      refine br (fun e => ?_) (fun e => ?_)
      · walk_at "d"
        rw [if_pos (of_decide_eq_true e)] at q'
        exact q'
      · walk_at "d"
        rw [if_neg (of_decide_eq_false e)] at q'
        exact q'
    · simp only [Tm.enc, er]
      walk_at "d"
      refine rv_ixm4 ?_
      walk_at "d"
      refine br_f (by rw [num_eq, ha]) ?_
      walk_at "d"
      rw [← er]
      have hf : (Tm.u3 a b c).fault = some ("kind" : Str) := by simp only [Tm.fault, ha]; rfl
      exact (q M .refl).1 _ hf
  | u1 w a =>
    obtain ⟨r, er⟩ := enc_head a
    cases w with
    | fn => cases hre
    | again => cases hre
    | box =>
      simp only [Tm.enc]
      walk_at "d"
      refine rv_ixm2 ?_
      walk_at "d"
      refine rv_catT (by simp; omega) ?_
      walk_at "d"
      refine rl_lenT ?_
      walk_at "d"
      rw [List.length_map]
      have q' := (q M .refl).2 rfl
      simp only [made, List.map_append] at q'
      exact q'
    | first =>
      cases e : a.isPair with
      | true =>
        obtain ⟨x, y, rfl⟩ := pair_of e
        simp only [Tm.enc]
        walk_at "d"
        refine rv_ixm2 ?_
        walk_at "d"
        exact (q M .refl).2 rfl
      | false =>
        simp only [Tm.enc, er]
        walk_at "d"
        refine rv_ixm2 ?_
        walk_at "d"
        refine br_f (by rw [pair_eq, e]) ?_
        walk_at "d"
        rw [← er]
        have hf : (Tm.u1 .first a).fault = some ("kind" : Str) := by simp only [Tm.fault, e]; rfl
        exact (q M .refl).1 _ hf
    | second =>
      cases e : a.isPair with
      | true =>
        obtain ⟨x, y, rfl⟩ := pair_of e
        simp only [Tm.enc]
        walk_at "d"
        refine rv_ixm2 ?_
        walk_at "d"
        exact (q M .refl).2 rfl
      | false =>
        simp only [Tm.enc, er]
        walk_at "d"
        refine rv_ixm2 ?_
        walk_at "d"
        refine br_f (by rw [pair_eq, e]) ?_
        walk_at "d"
        rw [← er]
        have hf : (Tm.u1 .second a).fault = some ("kind" : Str) := by simp only [Tm.fault, e]; rfl
        exact (q M .refl).1 _ hf
    | look =>
      cases e : a.isAt with
      | true =>
        obtain ⟨k, rfl⟩ := at_of e
        have hk : k < bs.length := of_decide_eq_true hw
        obtain ⟨eb, _⟩ := bx_mem hk
        simp only [Tm.enc]
        walk_at "d"
        refine rv_ixm2 ?_
        walk_at "d"
        refine rv_ixT (atI_nat (by rw [List.getElem?_map, eb]; rfl)) ?_
        walk_at "d"
        exact (q M .refl).2 rfl
      | false =>
        simp only [Tm.enc, er]
        walk_at "d"
        refine rv_ixm2 ?_
        walk_at "d"
        refine br_f (by rw [at_eq, e]) ?_
        walk_at "d"
        rw [← er]
        have hf : (Tm.u1 .look a).fault = some ("kind" : Str) := by simp only [Tm.fault, e]; rfl
        exact (q M .refl).1 _ hf
    | say =>
      cases e : a.isNum with
      | true =>
        obtain ⟨k, rfl⟩ := num_of e
        simp only [Tm.enc]
        walk_at "d"
        refine rv_ixm2 ?_
        walk_at "d"
        exact (q M .refl).2 rfl
      | false =>
        simp only [Tm.enc, er]
        walk_at "d"
        refine rv_ixm2 ?_
        walk_at "d"
        refine br_f (by rw [num_eq, e]) ?_
        walk_at "d"
        rw [← er]
        have hf : (Tm.u1 .say a).fault = some ("kind" : Str) := by simp only [Tm.fault, e]; rfl
        exact (q M .refl).1 _ hf
  | u2 w a b =>
    obtain ⟨r, er⟩ := enc_head a
    obtain ⟨r2, er2⟩ := enc_head b
    have hw' : (a.wf bs.length 0 && b.wf bs.length 0) = true := hw
    rw [Bool.and_eq_true] at hw'
    cases w with
    | pair => cases hre
    | call =>
      cases e : a.isFn with
      | true =>
        obtain ⟨f, rfl | rfl⟩ := fn_of e
        · simp only [Tm.enc]
          walk_at "d"
          refine rv_ixm3 ?_
          walk_at "d"
          refine ⟨f, [b], 0, rfl, wf_clX hw'.1, fun g hg => by rw [List.mem_singleton.mp hg]; exact ⟨wf_clX hw'.2, by simp only [Tm.dep] at hd; omega⟩, by simp only [Tm.dep] at hd; omega, fun M2 h2 => ?_⟩
          walk_at "d"
          exact (q M2 h2).2 rfl
        · simp only [Tm.enc]
          walk_at "d"
          refine rv_ixm3 ?_
          walk_at "d"
          refine ⟨f, [b, .u1 .again f], 0, rfl, wf_clX hw'.1, fun g hg => ?_, by simp only [Tm.dep] at hd; omega, fun M2 h2 => ?_⟩
          · rcases List.mem_cons.mp hg with rfl | hg
            · exact ⟨wf_clX hw'.2, by simp only [Tm.dep] at hd; omega⟩
            · rw [List.mem_singleton.mp hg]
              exact ⟨wf_clX hw'.1, by simp only [Tm.dep] at hd ⊢; omega⟩
          walk_at "d"
          exact (q M2 h2).2 rfl
      | false =>
        simp only [Tm.enc, er]
        walk_at "d"
        refine rv_ixm3 ?_
        walk_at "d"
        refine br_f (by rw [fn_in, e]) ?_
        walk_at "d"
        rw [← er]
        have hf : (Tm.u2 .call a b).fault = some ("kind" : Str) := by simp only [Tm.fault, e]; rfl
        exact (q M .refl).1 _ hf
    | put =>
      cases e : a.isAt with
      | true =>
        obtain ⟨k, rfl⟩ := at_of e
        have hk : k < bs.length := of_decide_eq_true hw'.1
        have e2 : ((k : Int) + 1) = ((k + 1 : Nat) : Int) := by omega
        simp only [Tm.enc]
        walk_at "d"
        refine rv_ixm3 ?_
        walk_at "d"
        rw [cut_to]
        refine rv_catT (by simp; omega) ?_
        walk_at "d"
        rw [e2, cut_from]
        refine rv_catT (by simp; omega) ?_
        walk_at "d"
        rw [set_cut bs k hk b]
        exact (q M .refl).2 rfl
      | false =>
        simp only [Tm.enc, er]
        walk_at "d"
        refine rv_ixm3 ?_
        walk_at "d"
        refine br_f (by rw [at_eq, e]) ?_
        walk_at "d"
        rw [← er]
        have hf : (Tm.u2 .put a b).fault = some ("kind" : Str) := by simp only [Tm.fault, e]; rfl
        exact (q M .refl).1 _ hf
    | plus =>
      rcases num_or a with ⟨x, rfl⟩ | ha
      · rcases num_or b with ⟨y, rfl⟩ | hb
        · have hx := of_decide_eq_true hw'.1
          have hy := of_decide_eq_true hw'.2
          simp only [Tm.enc]
          walk_at "d"
          refine rv_ixm3 ?_
          walk_at "d"
          refine ⟨.plus, x, y, rfl, rfl, hx.1, hx.2, hy.1, hy.2, fun M2 h2 => ?_⟩
          walk_at "d"
          refine rv_pow cpow9 ?_
          rw [pow9]
          walk_at "d"
          have q2 := q M2 h2
          have hfa : (Tm.u2 .plus (.num x) (.num y)).fault = if Tm.inR (Tm.sums .plus x y) = true then none else some ("great" : Str) := rfl
          have good : Tm.inR (Tm.sums .plus x y) = true → Q (.tup [.str "step", .tup (bs.map Tm.enc), .tup [.str "number", .int (Tm.sums .plus x y)], .tup []]) M2 := fun h => q2.2 (by rw [hfa, if_pos h])
          have bad : Tm.inR (Tm.sums .plus x y) = false → Q (.tup [.str "great", .tup (bs.map Tm.enc), (Tm.u2 .plus (.num x) (.num y)).enc, .tup []]) M2 := fun h => q2.1 _ (by rw [hfa, if_neg (by rw [h]; decide)])
          refine ⟨fun e1 => ?_, fun e1 => ?_⟩
          · have e1' := of_decide_eq_true e1
            walk_at "d"
            refine rv_pow cpow9 ?_
            rw [pow9]
            walk_at "d"
            refine br (fun e2 => ?_) (fun e2 => ?_)
            · have e2' := of_decide_eq_true e2
              walk_at "d"
              exact good (decide_eq_true ⟨by omega, by omega⟩)
            · have e2' := of_decide_eq_false e2
              walk_at "d"
              exact bad (decide_eq_false fun h => by omega)
          · have e1' := of_decide_eq_false e1
            walk_at "d"
            exact bad (decide_eq_false fun h => by omega)
        · simp only [Tm.enc, er2]
          walk_at "d"
          refine rv_ixm3 ?_
          walk_at "d"
          refine br_f (by rw [num_eq, hb]) ?_
          walk_at "d"
          rw [← er2]
          have hf : (Tm.u2 .plus (.num x) b).fault = some ("kind" : Str) := by simp only [Tm.fault, faultN_b hb]
          exact (q M .refl).1 _ hf
      · simp only [Tm.enc, er, er2]
        walk_at "d"
        refine rv_ixm3 ?_
        walk_at "d"
        refine br_f (by rw [num_eq, ha]) ?_
        walk_at "d"
        rw [← er, ← er2]
        have hf : (Tm.u2 .plus a b).fault = some ("kind" : Str) := by simp only [Tm.fault, faultN_a ha]
        exact (q M .refl).1 _ hf
    | minus =>
      rcases num_or a with ⟨x, rfl⟩ | ha
      · rcases num_or b with ⟨y, rfl⟩ | hb
        · have hx := of_decide_eq_true hw'.1
          have hy := of_decide_eq_true hw'.2
          simp only [Tm.enc]
          walk_at "d"
          refine rv_ixm3 ?_
          walk_at "d"
          refine ⟨.minus, x, y, rfl, rfl, hx.1, hx.2, hy.1, hy.2, fun M2 h2 => ?_⟩
          walk_at "d"
          refine rv_pow cpow9 ?_
          rw [pow9]
          walk_at "d"
          have q2 := q M2 h2
          have hfa : (Tm.u2 .minus (.num x) (.num y)).fault = if Tm.inR (Tm.sums .minus x y) = true then none else some ("great" : Str) := rfl
          have good : Tm.inR (Tm.sums .minus x y) = true → Q (.tup [.str "step", .tup (bs.map Tm.enc), .tup [.str "number", .int (Tm.sums .minus x y)], .tup []]) M2 := fun h => q2.2 (by rw [hfa, if_pos h])
          have bad : Tm.inR (Tm.sums .minus x y) = false → Q (.tup [.str "great", .tup (bs.map Tm.enc), (Tm.u2 .minus (.num x) (.num y)).enc, .tup []]) M2 := fun h => q2.1 _ (by rw [hfa, if_neg (by rw [h]; decide)])
          refine ⟨fun e1 => ?_, fun e1 => ?_⟩
          · have e1' := of_decide_eq_true e1
            walk_at "d"
            refine rv_pow cpow9 ?_
            rw [pow9]
            walk_at "d"
            refine br (fun e2 => ?_) (fun e2 => ?_)
            · have e2' := of_decide_eq_true e2
              walk_at "d"
              exact good (decide_eq_true ⟨by omega, by omega⟩)
            · have e2' := of_decide_eq_false e2
              walk_at "d"
              exact bad (decide_eq_false fun h => by omega)
          · have e1' := of_decide_eq_false e1
            walk_at "d"
            exact bad (decide_eq_false fun h => by omega)
        · simp only [Tm.enc, er2]
          walk_at "d"
          refine rv_ixm3 ?_
          walk_at "d"
          refine br_f (by rw [num_eq, hb]) ?_
          walk_at "d"
          rw [← er2]
          have hf : (Tm.u2 .minus (.num x) b).fault = some ("kind" : Str) := by simp only [Tm.fault, faultN_b hb]
          exact (q M .refl).1 _ hf
      · simp only [Tm.enc, er, er2]
        walk_at "d"
        refine rv_ixm3 ?_
        walk_at "d"
        refine br_f (by rw [num_eq, ha]) ?_
        walk_at "d"
        rw [← er, ← er2]
        have hf : (Tm.u2 .minus a b).fault = some ("kind" : Str) := by simp only [Tm.fault, faultN_a ha]
        exact (q M .refl).1 _ hf
    | times =>
      rcases num_or a with ⟨x, rfl⟩ | ha
      · rcases num_or b with ⟨y, rfl⟩ | hb
        · have hx := of_decide_eq_true hw'.1
          have hy := of_decide_eq_true hw'.2
          simp only [Tm.enc]
          walk_at "d"
          refine rv_ixm3 ?_
          walk_at "d"
          refine ⟨.times, x, y, rfl, rfl, hx.1, hx.2, hy.1, hy.2, fun M2 h2 => ?_⟩
          walk_at "d"
          refine rv_pow cpow9 ?_
          rw [pow9]
          walk_at "d"
          have q2 := q M2 h2
          have hfa : (Tm.u2 .times (.num x) (.num y)).fault = if Tm.inR (Tm.sums .times x y) = true then none else some ("great" : Str) := rfl
          have good : Tm.inR (Tm.sums .times x y) = true → Q (.tup [.str "step", .tup (bs.map Tm.enc), .tup [.str "number", .int (Tm.sums .times x y)], .tup []]) M2 := fun h => q2.2 (by rw [hfa, if_pos h])
          have bad : Tm.inR (Tm.sums .times x y) = false → Q (.tup [.str "great", .tup (bs.map Tm.enc), (Tm.u2 .times (.num x) (.num y)).enc, .tup []]) M2 := fun h => q2.1 _ (by rw [hfa, if_neg (by rw [h]; decide)])
          refine ⟨fun e1 => ?_, fun e1 => ?_⟩
          · have e1' := of_decide_eq_true e1
            walk_at "d"
            refine rv_pow cpow9 ?_
            rw [pow9]
            walk_at "d"
            refine br (fun e2 => ?_) (fun e2 => ?_)
            · have e2' := of_decide_eq_true e2
              walk_at "d"
              exact good (decide_eq_true ⟨by omega, by omega⟩)
            · have e2' := of_decide_eq_false e2
              walk_at "d"
              exact bad (decide_eq_false fun h => by omega)
          · have e1' := of_decide_eq_false e1
            walk_at "d"
            exact bad (decide_eq_false fun h => by omega)
        · simp only [Tm.enc, er2]
          walk_at "d"
          refine rv_ixm3 ?_
          walk_at "d"
          refine br_f (by rw [num_eq, hb]) ?_
          walk_at "d"
          rw [← er2]
          have hf : (Tm.u2 .times (.num x) b).fault = some ("kind" : Str) := by simp only [Tm.fault, faultN_b hb]
          exact (q M .refl).1 _ hf
      · simp only [Tm.enc, er, er2]
        walk_at "d"
        refine rv_ixm3 ?_
        walk_at "d"
        refine br_f (by rw [num_eq, ha]) ?_
        walk_at "d"
        rw [← er, ← er2]
        have hf : (Tm.u2 .times a b).fault = some ("kind" : Str) := by simp only [Tm.fault, faultN_a ha]
        exact (q M .refl).1 _ hf
  | _ => cases hre
end
end FS
set_option maxHeartbeats 4000000
namespace FS
open PySem PySem.Spec PyProof.Rows L2
local macro_rules | `(tactic| walk_at "t") => `(tactic| exact use_hole (by assumption))
local macro_rules | `(tactic| walk_at "t") => `(tactic| exact use_at (by assumption))
local macro_rules | `(tactic| walk_at "t") => `(tactic| exact use_name (by assumption))
local macro_rules | `(tactic| walk_at "t") => `(tactic| exact use_num (by assumption))
local macro_rules | `(tactic| walk_at "t") => `(tactic| exact leaf_leaves (by assumption))
local macro_rules | `(tactic| walk_at "t") => `(tactic| exact use_leaves (by assumption))
local macro_rules | `(tactic| walk_at "t") => `(tactic| assumption)
local macro_rules | `(tactic| walk_at "t") => `(tactic| decide +kernel)
local macro_rules | `(tactic| walk_at "t") => `(tactic| rfl)
local macro_rules | `(tactic| walk_at "d1") => `(tactic| (with_reducible refine ⟨_, _, _, rfl, ?_⟩))
local macro_rules | `(tactic| walk_at "d1") => `(tactic| (with_reducible refine ⟨_, _, rfl, ?_⟩))
local macro_rules | `(tactic| walk_at "d1") => `(tactic| ((with_reducible refine rv_fdiv ?h1 ?_); (case h1 => exact ⟨by decide, by decide⟩)))
local macro_rules | `(tactic| walk_at "d1") => `(tactic| ((with_reducible refine rv_mod ?h1 ?_); (case h1 => (show (0 : Int) < _; decide))))
local macro_rules | `(tactic| walk_at "d1") => `(tactic| (with_reducible refine we_call (dxs := [.int 0]) (fun H => .cons (.int 0) .nil) ?_))
local macro_rules | `(tactic| walk_at "d1") => `(tactic| ((with_reducible refine' we_c ?h1 ?_); (case h1 => assumption)))
local macro_rules | `(tactic| walk_at "d1") => `(tactic| (with_reducible refine wt_yes ?_))
local macro_rules | `(tactic| walk_at "d1") => `(tactic| (with_reducible refine wg_name ?_))
local macro_rules | `(tactic| walk_at "d1") => `(tactic| (with_reducible refine rv_ix3 ?_))
local macro_rules | `(tactic| walk_at "d1") => `(tactic| (with_reducible refine rv_ix2 ?_))
local macro_rules | `(tactic| walk_at "d1") => `(tactic| (with_reducible refine rv_notN ?_))
local macro_rules | `(tactic| walk_at "d1") => `(tactic| (with_reducible refine rv_isN ?_))
local macro_rules | `(tactic| walk_at "d1") => `(tactic| (with_reducible refine rv_neS ?_))
local macro_rules | `(tactic| walk_at "d1") => `(tactic| (with_reducible refine rv_ge ?_))
local macro_rules | `(tactic| walk_at "d1") => `(tactic| (with_reducible refine rv_gt ?_))
local macro_rules | `(tactic| walk_at "d1") => `(tactic| (with_reducible refine rv_le ?_))
local macro_rules | `(tactic| walk_at "d1") => `(tactic| (with_reducible refine rv_sub ?_))
local macro_rules | `(tactic| walk_at "d1") => `(tactic| (with_reducible refine wo_some ?_))
local macro_rules | `(tactic| walk_at "d1") => `(tactic| (with_reducible refine wo_none ?_))
local macro_rules | `(tactic| walk_at "d1") => `(tactic| (with_reducible refine we_then ?_))
local macro_rules | `(tactic| walk_at "d1") => `(tactic| (with_reducible refine we_un ?_))
local macro_rules | `(tactic| walk_at "d1") => `(tactic| (with_reducible refine we_chain ?_))
local macro_rules | `(tactic| walk_at "d1") => `(tactic| (with_reducible refine we_if ?_))
local macro_rules | `(tactic| walk_at "d1") => `(tactic| (with_reducible refine we_not ?_))
local macro_rules | `(tactic| walk_at "d1") => `(tactic| (with_reducible refine we_or ?_))
local macro_rules | `(tactic| walk_at "d1") => `(tactic| (with_reducible refine we_and ?_))
local macro_rules | `(tactic| walk_at "d1") => `(tactic| (with_reducible refine wt_not ?_))
local macro_rules | `(tactic| walk_at "d1") => `(tactic| (with_reducible refine wt_B ?_))
local macro_rules | `(tactic| walk_at "d1") => `(tactic| (with_reducible refine we_slT ?_))
local macro_rules | `(tactic| walk_at "d1") => `(tactic| (with_reducible refine we_lst ?_))
local macro_rules | `(tactic| walk_at "d1") => `(tactic| (with_reducible refine we_ty ?_))
local macro_rules | `(tactic| walk_at "d1") => `(tactic| (with_reducible refine we_non ?_))
local macro_rules | `(tactic| walk_at "d1") => `(tactic| (with_reducible refine we_bl ?_))
local macro_rules | `(tactic| walk_at "d1") => `(tactic| (with_reducible refine ws_asg ?_))
local macro_rules | `(tactic| walk_at "d1") => `(tactic| (with_reducible refine ws_par3 ?_))
local macro_rules | `(tactic| walk_at "d1") => `(tactic| (with_reducible refine ws_par ?_))
local macro_rules | `(tactic| walk_at "d1") => `(tactic| (with_reducible refine ws_drop ?_))
local macro_rules | `(tactic| walk_at "d1") => `(tactic| (with_reducible refine ru_neg ?_))
local macro_rules | `(tactic| walk_at "d1") => `(tactic| (with_reducible refine rl_isi_bb ?_))
local macro_rules | `(tactic| walk_at "d1") => `(tactic| (with_reducible refine rl_isi_bt ?_))
local macro_rules | `(tactic| walk_at "d1") => `(tactic| (with_reducible refine rl_isi_sb ?_))
local macro_rules | `(tactic| walk_at "d1") => `(tactic| (with_reducible refine rl_isi_st ?_))
local macro_rules | `(tactic| walk_at "d1") => `(tactic| (with_reducible refine rl_isi_is ?_))
local macro_rules | `(tactic| walk_at "d1") => `(tactic| (with_reducible refine rl_isi_it ?_))
local macro_rules | `(tactic| walk_at "d1") => `(tactic| (with_reducible refine rl_isi_ib ?_))
local macro_rules | `(tactic| walk_at "d1") => `(tactic| (with_reducible refine rl_isi_ii ?_))
local macro_rules | `(tactic| walk_at "d1") => `(tactic| (with_reducible refine rl_isi_ss ?_))
local macro_rules | `(tactic| walk_at "d1") => `(tactic| (with_reducible refine rl_isi_tt ?_))
local macro_rules | `(tactic| walk_at "d1") => `(tactic| (with_reducible refine rl_abs ?_))
local macro_rules | `(tactic| walk_at "d1") => `(tactic| (with_reducible refine rl_int ?_))
local macro_rules | `(tactic| walk_at "d1") => `(tactic| (with_reducible refine wt_or ?_))
local macro_rules | `(tactic| walk_at "d1") => `(tactic| (with_reducible refine rv_lt ?_))
local macro_rules | `(tactic| walk_at "d1") => `(tactic| (with_reducible refine rv_add ?_))
local macro_rules | `(tactic| walk_at "d1") => `(tactic| (with_reducible refine we_cb ?_))
local macro_rules | `(tactic| walk_at "d1") => `(tactic| (with_reducible refine ws_set ?_))
local macro_rules | `(tactic| walk_at "d1") => `(tactic| (with_reducible refine rv_ix1 ?_))
local macro_rules | `(tactic| walk_at "d1") => `(tactic| (with_reducible refine wt_and ?_))
local macro_rules | `(tactic| walk_at "d1") => `(tactic| (with_reducible refine we_call0 ?_))
local macro_rules | `(tactic| walk_at "d1") => `(tactic| ((with_reducible refine br_t ?h1 ?_); (case h1 => walk_at "t")))
local macro_rules | `(tactic| walk_at "d1") => `(tactic| ((with_reducible refine rv_inT ?a1 ?a2 ?_); (case a1 => rfl); (case a2 => first | rfl | decide +kernel)))
local macro_rules | `(tactic| walk_at "d1") => `(tactic| ((with_reducible refine len_and ?h1 ?_); (case h1 => first | decide | (simp; done) | (simp; omega))))
local macro_rules | `(tactic| walk_at "d1") => `(tactic| ((with_reducible refine br_f ?h1 ?_); (case h1 => walk_at "t")))
local macro_rules | `(tactic| walk_at "d1") => `(tactic| (with_reducible refine ⟨_, rfl, ?_⟩))
local macro_rules | `(tactic| walk_at "d1") => `(tactic| (with_reducible refine ws_ret ?_))
local macro_rules | `(tactic| walk_at "d1") => `(tactic| (with_reducible refine rv_eqS ?_))
local macro_rules | `(tactic| walk_at "d1") => `(tactic| (with_reducible refine we_tup ?_))
local macro_rules | `(tactic| walk_at "d1") => `(tactic| (with_reducible refine rv_ix0 ?_))
local macro_rules | `(tactic| walk_at "d1") => `(tactic| (with_reducible refine ws_next ?_))
local macro_rules | `(tactic| walk_at "d1") => `(tactic| (with_reducible refine ws_if ?_))
local macro_rules | `(tactic| walk_at "d1") => `(tactic| (with_reducible refine wt_test ?_))
local macro_rules | `(tactic| walk_at "d1") => `(tactic| (with_reducible refine ws_seq ?_))
local macro_rules | `(tactic| walk_at "d1") => `(tactic| (with_reducible refine wa_nil ?_))
local macro_rules | `(tactic| walk_at "d1") => `(tactic| (with_reducible refine we_int ?_))
local macro_rules | `(tactic| walk_at "d1") => `(tactic| (with_reducible refine we_str ?_))
local macro_rules | `(tactic| walk_at "d1") => `(tactic| (with_reducible refine we_op ?_))
local macro_rules | `(tactic| walk_at "d1") => `(tactic| ((with_reducible refine' we_var ?h1 ?_); (case h1 => exact rfl)))
local macro_rules | `(tactic| walk_at "d1") => `(tactic| (with_reducible refine wa_cons ?_))
local macro_rules | `(tactic| walk_at "d") => `(tactic| repeat (walk_at "d1"))
theorem sc__law_next : FnScope ["_law_program_here", "_law_place_here", "_law_word", "_law_boxes", "_law_part_here", "_law_said"] ["_law_program_here"] (defScope s__law_next) := ⟨rfl, rfl, rfl, by decide +kernel, rfl, by decide +kernel, by decide +kernel⟩
theorem sc__law_is_great : FnScope ["_law_book", "_law_source", "_law_parts", "_law_part_here"] ["_law_book", "_law_source"] (defScope s__law_is_great) := ⟨rfl, rfl, rfl, by decide +kernel, rfl, by decide +kernel, by decide +kernel⟩
theorem sc__law_gone : FnScope ["_law_program_here", "_law_steps", "_law_found", "_law_said", "_law_turn_here", "_law_outcome", "_law_further", "_law_more"] ["_law_program_here", "_law_steps"] (defScope s__law_gone) := ⟨rfl, rfl, rfl, by decide +kernel, rfl, by decide +kernel, by decide +kernel⟩
def T_next (n : Nat) : SpD := fun xs M Q => ∃ (bs : List Tm) (t : Tm), xs = [encP bs t] ∧ Wf bs t ∧ (∀ b ∈ t :: bs, b.dep ≤ n) ∧ n ≤ 900 ∧ bs.length ≤ 90000 ∧
  ∀ M', MEx M M' → (outcome t ≠ "step" → Q (.tup [.str (outcome t), encP (tidyB bs t) (tidyT bs t), .tup []]) M') ∧ (outcome t = "step" → Q (.tup [.str (outcome t), encP (nextB bs t) (nextT bs t), .tup ((stepP bs t).2.2.map .int)]) M')
def T_great (n : Nat) : SpD := fun xs M Q => ∃ (bs : List Tm) (t : Tm), xs = [.tup [], encP bs t] ∧ (∀ b ∈ t :: bs, b.dep ≤ n) ∧ bs.length ≤ 90000 ∧ ∀ M' b, MEx M M' → (b = true ↔ ¬ Fit bs t) → Q (.bl b) M'
def goneD : Option Res → Dv
  | some r => .tup [.bl true, resD r]
  | none => .tup [.bl false]
def T_gone : SpD := fun xs M Q => ∃ (bs : List Tm) (t : Tm) (k : Nat), xs = [encP bs t, .int (k : Int)] ∧ Gd bs t ∧ k ≤ 1000 ∧ ∀ M', MEx M M' → Q (goneD (run k 0 (tidyB bs t) (tidyT bs t) [])) M'
theorem out_step {t : Tm} {pl : List Nat} {u : Tm} (h1 : t.place = some pl) (h2 : t.partAt pl = some u) : (∀ z, u.fault = some z → outcome t = z) ∧ (u.fault = none → outcome t = "step") := by
  refine ⟨fun z h => ?_, fun h => ?_⟩ <;> simp only [outcome, h1, h2, h]
theorem fault_ne {u : Tm} {z : Str} (h : u.fault = some z) : z ≠ "step" := by
  intro e
  subst e
  have k1 : (some ("kind" : Str)) ≠ some ("step" : Str) := by decide +kernel
  have k2 : (some ("great" : Str)) ≠ some ("step" : Str) := by decide +kernel
  have kb : ∀ b : Bool, (if b = true then none else some ("kind" : Str)) ≠ some ("step" : Str) := fun b e => by
    cases b with
    | true => cases e
    | false => exact k1 e
  have kg : ∀ b : Bool, (if b = true then none else some ("great" : Str)) ≠ some ("step" : Str) := fun b e => by
    cases b with
    | true => cases e
    | false => exact k2 e
  have kn : ∀ w a b, Tm.faultN w a b ≠ some ("step" : Str) := fun w a b e => by
    rcases num_or a with ⟨x, rfl⟩ | ha
    · rcases num_or b with ⟨y, rfl⟩ | hb
      · exact kg (Tm.inR (Tm.sums w x y)) e
      · rw [faultN_b hb] at e
        exact k1 e
    · rw [faultN_a ha] at e
      exact k1 e
  cases u with
  | u1 w a => cases w <;> first | (cases h; done) | exact kb _ h
  | u2 w a b => cases w <;> first | exact kb _ h | exact kn _ _ _ h
  | u3 a b c => exact kb _ h
  | _ => cases h
section
variable {P : Program} {w : World} {K : PySem.W.Frag} {mg : Str → Option Value} {base : Heap}
theorem cal__law_next (G : Glb K mg) {L n : Nat} (c__law_place : Cal P w K mg base L "_law_place" (S_place n) []) (c__law_tidied : Cal P w K mg base L "_law_tidied" (T_tidy (n + n)) []) (c__law_here : Cal P w K mg base L "_law_here" (T_here n) []) (c__law_part_at : Cal P w K mg base L "_law_part_at" S_part []) (c__law_replaced : Cal P w K mg base L "_law_replaced" (S_repl n) []) : Cal P w K mg base (L + 1) "_law_next" (T_next n) [] := by
  refine cal_mk (ps := ["_law_program_here"]) G.d__law_next (fun _ _ _ _ _ _ us hl => match us, hl with | [_], _ => rfl) sc__law_next (fun xs M Q h => by obtain ⟨t, m, rfl, _⟩ := h; rfl) fun f cdv A outer s H E hr => ⟨_, (pss_cons (ps_set (i := 1) sc__law_next.nd rfl (.inl rfl) (pe_cal c__law_place hr (by omega) ⟨rfl, rfl, rfl, rfl, rfl⟩ rfl (pa_cons (pe_ix (ix_tupK (K := K) rfl) (pv 0) pe_int (fun _ _ => rfl)) pa_nil)))
      (pss_cons (ps_if (pt_cmpR op_isN (pv 1) pe_non (nomark _))
        (pss_one (ps_ret (pe_tup (pa_cons pe_str (pa_cons (pe_cal c__law_tidied hr (by omega) ⟨rfl, rfl, rfl, rfl, rfl⟩ rfl (pa_cons (pv 0) pa_nil)) (pa_cons (pe_tup pa_nil) pa_nil))))))
        pss_nil)
      (pss_cons (ps_asg (pe_cal c__law_here hr (by omega) ⟨rfl, rfl, rfl, rfl, rfl⟩ rfl (pa_cons (pe_ix (ix_tupK (K := K) rfl) (pv 0) pe_int (fun _ _ => rfl)) (pa_cons (pe_cal c__law_part_at hr (by omega) ⟨rfl, rfl, rfl, rfl, rfl⟩ rfl (pa_cons (pe_ix (ix_tupK (K := K) rfl) (pv 0) pe_int (fun _ _ => rfl)) (pa_cons (pv 1) pa_nil))) pa_nil))) (pg_tupK (K := K) (n := 4) rfl rfl (pgs_cons (pg_name (i := 2) sc__law_next.nd rfl (.inl rfl)) (pgs_cons (pg_name (i := 3) sc__law_next.nd rfl (.inl rfl)) (pgs_cons (pg_name (i := 4) sc__law_next.nd rfl (.inl rfl)) (pgs_cons (pg_name (i := 5) sc__law_next.nd rfl (.inl rfl)) pgs_nil)))) (by rfl) (by rfl)))
      (pss_cons (ps_if (pt_cmpR op_ne (pv 2) pe_str (nomark _))
        (pss_one (ps_ret (pe_tup (pa_cons (pv 2) (pa_cons (pe_cal c__law_tidied hr (by omega) ⟨rfl, rfl, rfl, rfl, rfl⟩ rfl (pa_cons (pv 0) pa_nil)) (pa_cons (pe_tup pa_nil) pa_nil))))))
        pss_nil)
      (pss_one (ps_ret (pe_tup (pa_cons pe_str (pa_cons (pe_cal c__law_tidied hr (by omega) ⟨rfl, rfl, rfl, rfl, rfl⟩ rfl (pa_cons (pe_tup (pa_cons (pv 3) (pa_cons (pe_cal c__law_replaced hr (by omega) ⟨rfl, rfl, rfl, rfl, rfl⟩ rfl (pa_cons (pe_ix (ix_tupK (K := K) rfl) (pv 0) pe_int (fun _ _ => rfl)) (pa_cons (pv 1) (pa_cons (pv 4) pa_nil)))) pa_nil))) pa_nil)) (pa_cons (pv 5) pa_nil)))))))))), fun xs M Q h => ?_⟩
  obtain ⟨bs, t, rfl, hw, hd, hn, hm, q⟩ := h
  have hdn : ∀ b ∈ t :: bs, b.dep ≤ n + n := fun b hb => by have := hd b hb; omega
  have hdt := hd t (List.mem_cons_self ..)
  unfold encP
  walk_at "d"
  refine ⟨t, rfl, wf_clX hw.tm, hdt, fun M2 h2 => ?_⟩
  walk_at "d"
  cases ep : t.place with
  | none =>
    have ho : outcome t = "end" := by simp only [outcome, ep]
    have hne : outcome t ≠ "step" := by rw [ho]; decide +kernel
    refine br_t rfl ?_
    walk_at "d"
    refine ⟨bs, t, rfl, hw, hdn, by omega, fun M3 h3 => ?_⟩
    walk_at "d"
    have q' := (q M3 (h2.trans h3)).1 hne
    rw [ho] at q'
    exact q'
  | some pl =>
    obtain ⟨u, h1, h3, h4, h5, h6, h7⟩ := place_part t hw.tm ep
    have hpl : pl.length < n := by have := Tm.place_len t ep; omega
    obtain ⟨o1, o2⟩ := out_step ep h1
    refine br_f rfl ?_
    walk_at "d"
    refine ⟨t, pl, u, rfl, h1, fun M4 h8 => ?_⟩
    walk_at "d"
    refine ⟨bs, u, rfl, h3, h4, by omega, by omega, fun M5 h9 => ⟨fun z hz => ?_, fun hf => ?_⟩⟩
    · refine wg_tup rfl (wgs_cons (wg_name (wgs_cons (wg_name (wgs_cons (wg_name (wgs_cons (wg_name (wgs_nil ?_)))))))))
      walk_at "d"
      refine br_t (by simpa using fault_ne hz) ?_
      walk_at "d"
      refine ⟨bs, t, rfl, hw, hdn, by omega, fun M6 h10 => ?_⟩
      walk_at "d"
      have q' := (q M6 (((h2.trans h8).trans h9).trans h10)).1 (by rw [o1 z hz]; exact fault_ne hz)
      rw [o1 z hz] at q'
      exact q'
    · have ho := o2 hf
      have hst : stepP bs t = ((made bs u).1, t.repl pl (made bs u).2.1, (made bs u).2.2) := by simp only [stepP, ep, h1]
      have hw2 := step_wf hw ho
      have hd2 := step_dep (n := n) hw ho hd
      obtain ⟨hb2, hl2⟩ := step_box (n := n) (l := (t :: bs).map Tm.len |>.sum) hw ho hd (fun b hb => mem_sum_le (List.mem_map.mpr ⟨b, hb, rfl⟩))
      rw [hst] at hw2 hd2 hb2 hl2
      dsimp only at hw2 hd2 hb2 hl2
      refine wg_tup rfl (wgs_cons (wg_name (wgs_cons (wg_name (wgs_cons (wg_name (wgs_cons (wg_name (wgs_nil ?_)))))))))
      walk_at "d"
      refine ⟨t, pl, _, _, rfl, hpl, h1, fun M6 h10 => ?_⟩
      walk_at "d"
      refine ⟨_, _, rfl, hw2, fun b hb => ?_, by omega, fun M7 h11 => ?_⟩
      · rcases List.mem_cons.mp hb with rfl | hb
        · exact hd2
        · have := (hb2 b hb).1
          omega
      walk_at "d"
      have q' := (q M7 ((((h2.trans h8).trans h9).trans h10).trans h11)).2 ho
      unfold nextB nextT at q'
      rw [hst, ho] at q'
      exact q'
theorem cal__law_is_great (G : Glb K mg) {L n : Nat} (c__law_length : Cal P w K mg base L "_law_length" (T_len n) []) (c__law_depth : Cal P w K mg base L "_law_depth" (S_dep n) []) : Cal P w K mg base (L + 1) "_law_is_great" (T_great n) [] := by
  refine cal_mk (ps := ["_law_book", "_law_source"]) G.d__law_is_great (fun _ _ _ _ _ _ us hl => match us, hl with | [_, _], _ => rfl) sc__law_is_great (fun xs M Q h => by obtain ⟨t, m, rfl, _⟩ := h; rfl) fun f cdv A outer s H E hr => ⟨_, (pss_cons (ps_set (i := 2) sc__law_is_great.nd rfl (.inl rfl) (pe_op op_cat (pe_callTy (call_listK (K := K) rfl) (by rfl) G.b_list (by decide +kernel) (pa_cons (pe_ix (ix_tupK (K := K) rfl) (pv 1) pe_int (fun _ _ => rfl)) pa_nil)) (pe_lst (pa_cons (pe_ix (ix_tupK (K := K) rfl) (pv 1) pe_int (fun _ _ => rfl)) pa_nil))))
      (pss_one (ps_ret (pe_or (pe_cmpR op_gt (pe_callB (cr_sumK (K := K) rfl rfl) (by rfl) G.b_sum (by decide +kernel) (pa_cons (pe_lc (own := [("_law_part_here", 3)]) (by rfl) sc__law_is_great.nd (pi_listK (K := K) rfl (pv 2)) (blkOk_by (N := ["_law_book", "_law_source", "_law_parts", "_law_part_here"]) (sc := defScope s__law_is_great) (by decide +kernel)) (fun _ _ _ _ _ => (pg_name (i := 3) sc__law_is_great.nd rfl (.inl rfl))) (fun _ _ _ _ _ => pts_nil) (fun _ _ _ _ _ => (pe_cal c__law_length hr (by omega) ⟨rfl, rfl, rfl, rfl, rfl⟩ rfl (pa_cons (pv 0) (pa_cons (pv 3) pa_nil))))) pa_nil)) pe_int (nomark _)) (pe_one (pe_cmpR op_gt (pe_callB (cr_maxK (K := K) rfl rfl) (by rfl) G.b_max (by decide +kernel) (pa_cons (pe_lc (own := [("_law_part_here", 3)]) (by rfl) sc__law_is_great.nd (pi_listK (K := K) rfl (pv 2)) (blkOk_by (N := ["_law_book", "_law_source", "_law_parts", "_law_part_here"]) (sc := defScope s__law_is_great) (by decide +kernel)) (fun _ _ _ _ _ => (pg_name (i := 3) sc__law_is_great.nd rfl (.inl rfl))) (fun _ _ _ _ _ => pts_nil) (fun _ _ _ _ _ => (pe_cal c__law_depth hr (by omega) ⟨rfl, rfl, rfl, rfl, rfl⟩ rfl (pa_cons (pv 3) pa_nil)))) pa_nil)) pe_int (nomark _))))))), fun xs M Q h => ?_⟩
  obtain ⟨bs, t, rfl, hd, hm, q⟩ := h
  have hda : ∀ b ∈ bs ++ [t], b.dep ≤ n := fun b hb => (List.mem_append.mp hb).elim (fun h => hd b (List.mem_cons_of_mem _ h)) fun h => by rw [List.mem_singleton.mp h]; exact hd t (List.mem_cons_self ..)
  have hlen : (((bs ++ [t]).map Tm.len).sum) = lenP bs t := by simp [lenP]
  unfold encP
  walk_at "d"
  refine rl_listT fun p np => ?_
  walk_at "d"
  intro r nr
  have e : mupd (mupd M p (.lst (bs.map Tm.enc))) r (.lst [t.enc]) p = some (.lst (bs.map Tm.enc)) := MEx.new nr p _ mupd_same
  refine rv_catL e mupd_same (by simp; omega) fun v nv => ?_
  have mx1 : MEx M (mupd (mupd (mupd M p (.lst (bs.map Tm.enc))) r (.lst [t.enc])) v (.lst (bs.map Tm.enc ++ [t.enc]))) := ((MEx.new np).trans (.new nr)).trans (.new nv)
  have hv : (mupd (mupd (mupd M p (.lst (bs.map Tm.enc))) r (.lst [t.enc])) v (.lst (bs.map Tm.enc ++ [t.enc]))) v = some (.lst ((bs ++ [t]).map Tm.enc)) := by rw [mupd_same]; simp
  generalize (mupd (mupd (mupd M p (.lst (bs.map Tm.enc))) r (.lst [t.enc])) v (.lst (bs.map Tm.enc ++ [t.enc]))) = M1 at mx1 hv
  walk_at "d"
  refine we_lcV (bs ++ [t]) Tm.enc (fun b => .int (b.len : Int)) rfl ?_ (by simp; omega) ?_ ?_
  · walk_at "d"
    exact ⟨hv, .refl⟩
  · intro b hb M2 h2
    walk_at "d"
    exact ⟨b, rfl, hda b hb, fun M' h => ⟨h, rfl⟩⟩
  intro z M2 h2 hz
  walk_at "d"
  refine rl_sumN hz ?_
  walk_at "d"
  rw [hlen]
  refine ⟨fun e => ?_, fun e => ?_⟩
  · have e1 := of_decide_eq_true e
    exact q M2 true (mx1.trans h2) ⟨fun _ hf => by have := hf.1; omega, fun _ => rfl⟩
  have e1 := of_decide_eq_false e
  walk_at "d"
  refine we_lcV (bs ++ [t]) Tm.enc (fun b => .int (b.dep : Int)) rfl ?_ (by simp; omega) ?_ ?_
  · walk_at "d"
    exact ⟨h2 _ _ hv, .refl⟩
  · intro b hb M3 h3
    walk_at "d"
    exact ⟨b, rfl, hda b hb, fun M' h => ⟨h, rfl⟩⟩
  intro y M3 h3 hy
  walk_at "d"
  refine rl_max (ns := (bs ++ [t]).map fun b => (b.dep : Int)) (by rw [hy, List.map_map]; rfl) (by simp) fun m h4 h5 => ?_
  walk_at "d"
  refine q M3 _ ((mx1.trans h2).trans h3) ⟨fun hb hf => ?_, fun hf => decide_eq_true ?_⟩
  · have e2 := of_decide_eq_true hb
    obtain ⟨b, hbm, rfl⟩ := List.mem_map.mp h4
    have hb' : b ∈ t :: bs := (List.mem_append.mp hbm).elim (fun h => List.mem_cons_of_mem _ h) fun h => by rw [List.mem_singleton.mp h]; exact List.mem_cons_self ..
    have := hf.2 b hb'
    omega
  · rcases Int.lt_or_le 60 m with h | h
    · exact h
    · exfalso
      refine hf ⟨by omega, fun b hb => ?_⟩
      have hb' : b ∈ bs ++ [t] := (List.mem_cons.mp hb).elim (fun h => by rw [h]; simp) fun h => List.mem_append.mpr (.inl h)
      have := h5 _ (List.mem_map.mpr ⟨b, hb', rfl⟩)
      omega
theorem cal__law_gone (G : Glb K mg) {L : Nat} (c__law_tidied : Cal P w K mg base L "_law_tidied" (T_tidy 120) []) (c__law_next : Cal P w K mg base L "_law_next" (T_next 60) []) (c__law_is_great : Cal P w K mg base L "_law_is_great" (T_great 120) []) : Cal P w K mg base (L + 1) "_law_gone" T_gone [] := by
  refine cal_mk (ps := ["_law_program_here", "_law_steps"]) G.d__law_gone (fun _ _ _ _ _ _ us hl => match us, hl with | [_, _], _ => rfl) sc__law_gone (fun xs M Q h => by obtain ⟨t, m, k, rfl, _⟩ := h; rfl) fun f cdv A outer s H E hr => ⟨_, (pss_cons (ps_par (i := 2) (j := 3) (by rfl) sc__law_gone.nd rfl rfl (by decide) rfl rfl (pa_cons (pe_cal c__law_tidied hr (by omega) ⟨rfl, rfl, rfl, rfl, rfl⟩ rfl (pa_cons (pv 0) pa_nil)) (pa_cons (pe_tup pa_nil) pa_nil)) (by rfl))
      (pss_cons (ps_for PassesOwn.never rfl (pi_range1 rfl G.b_range (pa_cons (pv 1) pa_nil)) (pg_name (i := 4) sc__law_gone.nd rfl (.inl rfl))
        (pss_cons (ps_asg (pe_cal c__law_next hr (by omega) ⟨rfl, rfl, rfl, rfl, rfl⟩ rfl (pa_cons (pv 2) pa_nil)) (pg_tupK (K := K) (n := 3) rfl rfl (pgs_cons (pg_name (i := 5) sc__law_gone.nd rfl (.inl rfl)) (pgs_cons (pg_name (i := 6) sc__law_gone.nd rfl (.inl rfl)) (pgs_cons (pg_name (i := 7) sc__law_gone.nd rfl (.inl rfl)) pgs_nil))) (by rfl) (by rfl)))
        (pss_cons (ps_if (pt_cmpR op_ne (pv 5) pe_str (nomark _))
          (pss_one (ps_ret (pe_tup (pa_cons pe_bl (pa_cons (pe_tup (pa_cons (pv 4) (pa_cons (pv 2) (pa_cons (pv 3) pa_nil)))) pa_nil)))))
          pss_nil)
        (pss_cons (ps_if (pt_val (pe_cal c__law_is_great hr (by omega) ⟨rfl, rfl, rfl, rfl, rfl⟩ rfl (pa_cons (pe_tup pa_nil) (pa_cons (pv 6) pa_nil))))
          (pss_one (ps_ret (pe_tup (pa_cons pe_bl pa_nil))))
          pss_nil)
        (pss_one (ps_par (i := 2) (j := 3) (by rfl) sc__law_gone.nd rfl rfl (by decide) rfl rfl (pa_cons (pv 6) (pa_cons (pe_op (op_catK (K := K) rfl) (pv 3) (pv 7)) pa_nil)) (by rfl)))))))
      (pss_one (ps_ret (pe_tup (pa_cons pe_bl (pa_cons (pe_tup (pa_cons (pv 1) (pa_cons (pv 2) (pa_cons (pv 3) pa_nil)))) pa_nil))))))), fun xs M Q h => ?_⟩
  obtain ⟨b0, t0, k, rfl, hg, hk, q⟩ := h
  have hfew := hg.few
  walk_at "d"
  refine ⟨b0, t0, rfl, hg.wf, fun b hb => by have := hg.fit.2 b hb; omega, by omega, fun M2 h2 => ?_⟩
  walk_at "d"
  refine ws_forR k (fun i ds' M' => MEx M M' ∧ ∃ (bs : List Tm) (t : Tm) (ns : List Int) (a b c d : Option Dv), ds' = [some (encP b0 t0), some (.int (k : Int)), some (encP bs t), some (.tup (ns.map .int)), a, b, c, d] ∧ Gd bs t ∧ Tid bs t ∧ ns.length ≤ i ∧ i ≤ k ∧ run (k - i) i bs t ns = run k 0 (tidyB b0 t0) (tidyT b0 t0) []) ?_ ?_ ?_
  · walk_at "d"
    exact ⟨rfl, by omega, h2, _, _, [], none, none, none, none, rfl, gd_tidy hg, tidy_tid hg.wf, Nat.le_refl _, Nat.zero_le _, rfl⟩
  · rintro i ds' M' hi ⟨hM, bs, t, ns, a, b, c, d, rfl, hgd, htid, hns, hik, hrun⟩
    have er : run (k - i) i bs t ns = if outcome t = "step" then (if Fit (nextB bs t) (nextT bs t) then run (k - (i + 1)) (i + 1) (nextB bs t) (nextT bs t) (ns ++ (stepP bs t).2.2) else none) else some (i, bs, t, ns) := by
      have : k - i = (k - (i + 1)) + 1 := by omega
      rw [this]
      rfl
    rw [er] at hrun
    have hfew2 := hgd.few
    walk_at "d"
    refine ⟨bs, t, rfl, hgd.wf, hgd.fit.2, by omega, by omega, fun M5 h5 => ⟨fun ho => ?_, fun ho => ?_⟩⟩
    · rw [if_neg ho] at hrun
      refine wg_tup rfl (wgs_cons (wg_name (wgs_cons (wg_name (wgs_cons (wg_name (wgs_nil ?_)))))))
      walk_at "d"
      refine br_t (by simpa using ho) ?_
      walk_at "d"
      have q' := q M5 (hM.trans h5)
      rw [← hrun] at q'
      exact q'
    · rw [if_pos ho] at hrun
      refine wg_tup rfl (wgs_cons (wg_name (wgs_cons (wg_name (wgs_cons (wg_name (wgs_nil ?_)))))))
      walk_at "d"
      refine br_f (by simpa using ho) ?_
      walk_at "d"
      have hw2 := step_wf hgd.wf ho
      have hd2 := step_dep (n := 60) hgd.wf ho hgd.fit.2
      obtain ⟨hb2, hl2⟩ := step_box (n := 60) (l := 1500) hgd.wf ho hgd.fit.2 (fun b hb => (List.mem_cons.mp hb).elim (fun e => by rw [e]; exact (fit_len hgd.fit).1) ((fit_len hgd.fit).2 b))
      have hsmall : (nextB bs t).length ≤ 90000 := by
        have h1 : (nextB bs t).length = (met (stepP bs t).1 (stepP bs t).2.1).length := tidyB_len
        have h2 := metN_len hw2 (stepP bs t).1.length
        have h3 : (met (stepP bs t).1 (stepP bs t).2.1).length ≤ (stepP bs t).1.length := h2
        omega
      refine ⟨nextB bs t, nextT bs t, rfl, fun b hb => ?_, hsmall, fun M6 b h6 hb => ?_⟩
      · rcases List.mem_cons.mp hb with rfl | h
        · unfold nextT tidyT
          rw [renum_dep]
          omega
        · obtain ⟨j, hj, rfl⟩ := List.mem_map.mp h
          rw [renum_dep]
          have := (hb2 _ (bx_mem (met_lt hw2 hj)).2).1
          omega
      walk_at "d"
      cases b with
      | true =>
        refine br_t rfl ?_
        walk_at "d"
        rw [if_neg (hb.mp rfl)] at hrun
        have q' := q M6 ((hM.trans h5).trans h6)
        rw [← hrun] at q'
        exact q'
      | false =>
        have hf : Fit (nextB bs t) (nextT bs t) := by
          by_cases hf : Fit (nextB bs t) (nextT bs t)
          · exact hf
          · have := hb.mpr hf
            cases this
        rw [if_pos hf] at hrun
        refine br_f rfl ?_
        have hsf := said_few hgd ho
        walk_at "d"
        refine rv_catT (by simp; omega) ?_
        walk_at "d"
        refine ⟨(hM.trans h5).trans h6, nextB bs t, nextT bs t, ns ++ (stepP bs t).2.2, some (.int (i : Int)), some (.str (outcome t)), some (encP (nextB bs t) (nextT bs t)), some (.tup ((stepP bs t).2.2.map .int)), ?_, gd_next hgd ho hf, tid_next hgd ho, by simp; omega, by omega, hrun⟩
        rw [List.map_append]
        rfl
  · rintro ds' M' ⟨hM, bs, t, ns, a, b, c, d, rfl, hgd, htid, hns, hik, hrun⟩
    walk_at "d"
    rw [Nat.sub_self] at hrun
    have q' := q M' hM
    rw [← hrun] at q'
    exact q'
end
end FS
set_option maxHeartbeats 4000000
namespace FS
open PySem PySem.Spec PyProof.Rows L2
local macro_rules | `(tactic| walk_at "t") => `(tactic| exact use_hole (by assumption))
local macro_rules | `(tactic| walk_at "t") => `(tactic| exact use_at (by assumption))
local macro_rules | `(tactic| walk_at "t") => `(tactic| exact use_name (by assumption))
local macro_rules | `(tactic| walk_at "t") => `(tactic| exact use_num (by assumption))
local macro_rules | `(tactic| walk_at "t") => `(tactic| exact leaf_leaves (by assumption))
local macro_rules | `(tactic| walk_at "t") => `(tactic| exact use_leaves (by assumption))
local macro_rules | `(tactic| walk_at "t") => `(tactic| assumption)
local macro_rules | `(tactic| walk_at "t") => `(tactic| decide +kernel)
local macro_rules | `(tactic| walk_at "t") => `(tactic| rfl)
local macro_rules | `(tactic| walk_at "d1") => `(tactic| (with_reducible refine ⟨_, _, _, rfl, ?_⟩))
local macro_rules | `(tactic| walk_at "d1") => `(tactic| (with_reducible refine ⟨_, _, rfl, ?_⟩))
local macro_rules | `(tactic| walk_at "d1") => `(tactic| ((with_reducible refine rv_fdiv ?h1 ?_); (case h1 => exact ⟨by decide, by decide⟩)))
local macro_rules | `(tactic| walk_at "d1") => `(tactic| ((with_reducible refine rv_mod ?h1 ?_); (case h1 => (show (0 : Int) < _; decide))))
local macro_rules | `(tactic| walk_at "d1") => `(tactic| (with_reducible refine we_call (dxs := [.int 0]) (fun H => .cons (.int 0) .nil) ?_))
local macro_rules | `(tactic| walk_at "d1") => `(tactic| ((with_reducible refine' we_c ?h1 ?_); (case h1 => assumption)))
local macro_rules | `(tactic| walk_at "d1") => `(tactic| (with_reducible refine wt_yes ?_))
local macro_rules | `(tactic| walk_at "d1") => `(tactic| (with_reducible refine wg_name ?_))
local macro_rules | `(tactic| walk_at "d1") => `(tactic| (with_reducible refine rv_ix3 ?_))
local macro_rules | `(tactic| walk_at "d1") => `(tactic| (with_reducible refine rv_ix2 ?_))
local macro_rules | `(tactic| walk_at "d1") => `(tactic| (with_reducible refine rv_notN ?_))
local macro_rules | `(tactic| walk_at "d1") => `(tactic| (with_reducible refine rv_isN ?_))
local macro_rules | `(tactic| walk_at "d1") => `(tactic| (with_reducible refine rv_neS ?_))
local macro_rules | `(tactic| walk_at "d1") => `(tactic| (with_reducible refine rv_ge ?_))
local macro_rules | `(tactic| walk_at "d1") => `(tactic| (with_reducible refine rv_gt ?_))
local macro_rules | `(tactic| walk_at "d1") => `(tactic| (with_reducible refine rv_le ?_))
local macro_rules | `(tactic| walk_at "d1") => `(tactic| (with_reducible refine rv_sub ?_))
local macro_rules | `(tactic| walk_at "d1") => `(tactic| (with_reducible refine wo_some ?_))
local macro_rules | `(tactic| walk_at "d1") => `(tactic| (with_reducible refine wo_none ?_))
local macro_rules | `(tactic| walk_at "d1") => `(tactic| (with_reducible refine we_then ?_))
local macro_rules | `(tactic| walk_at "d1") => `(tactic| (with_reducible refine we_un ?_))
local macro_rules | `(tactic| walk_at "d1") => `(tactic| (with_reducible refine we_chain ?_))
local macro_rules | `(tactic| walk_at "d1") => `(tactic| (with_reducible refine we_if ?_))
local macro_rules | `(tactic| walk_at "d1") => `(tactic| (with_reducible refine we_not ?_))
local macro_rules | `(tactic| walk_at "d1") => `(tactic| (with_reducible refine we_or ?_))
local macro_rules | `(tactic| walk_at "d1") => `(tactic| (with_reducible refine we_and ?_))
local macro_rules | `(tactic| walk_at "d1") => `(tactic| (with_reducible refine wt_not ?_))
local macro_rules | `(tactic| walk_at "d1") => `(tactic| (with_reducible refine wt_B ?_))
local macro_rules | `(tactic| walk_at "d1") => `(tactic| (with_reducible refine we_slT ?_))
local macro_rules | `(tactic| walk_at "d1") => `(tactic| (with_reducible refine we_lst ?_))
local macro_rules | `(tactic| walk_at "d1") => `(tactic| (with_reducible refine we_ty ?_))
local macro_rules | `(tactic| walk_at "d1") => `(tactic| (with_reducible refine we_non ?_))
local macro_rules | `(tactic| walk_at "d1") => `(tactic| (with_reducible refine we_bl ?_))
local macro_rules | `(tactic| walk_at "d1") => `(tactic| (with_reducible refine ws_asg ?_))
local macro_rules | `(tactic| walk_at "d1") => `(tactic| (with_reducible refine ws_par3 ?_))
local macro_rules | `(tactic| walk_at "d1") => `(tactic| (with_reducible refine ws_par ?_))
local macro_rules | `(tactic| walk_at "d1") => `(tactic| (with_reducible refine ws_drop ?_))
local macro_rules | `(tactic| walk_at "d1") => `(tactic| (with_reducible refine ru_neg ?_))
local macro_rules | `(tactic| walk_at "d1") => `(tactic| (with_reducible refine rl_isi_bb ?_))
local macro_rules | `(tactic| walk_at "d1") => `(tactic| (with_reducible refine rl_isi_bt ?_))
local macro_rules | `(tactic| walk_at "d1") => `(tactic| (with_reducible refine rl_isi_sb ?_))
local macro_rules | `(tactic| walk_at "d1") => `(tactic| (with_reducible refine rl_isi_st ?_))
local macro_rules | `(tactic| walk_at "d1") => `(tactic| (with_reducible refine rl_isi_is ?_))
local macro_rules | `(tactic| walk_at "d1") => `(tactic| (with_reducible refine rl_isi_it ?_))
local macro_rules | `(tactic| walk_at "d1") => `(tactic| (with_reducible refine rl_isi_ib ?_))
local macro_rules | `(tactic| walk_at "d1") => `(tactic| (with_reducible refine rl_isi_ii ?_))
local macro_rules | `(tactic| walk_at "d1") => `(tactic| (with_reducible refine rl_isi_ss ?_))
local macro_rules | `(tactic| walk_at "d1") => `(tactic| (with_reducible refine rl_isi_tt ?_))
local macro_rules | `(tactic| walk_at "d1") => `(tactic| (with_reducible refine rl_abs ?_))
local macro_rules | `(tactic| walk_at "d1") => `(tactic| (with_reducible refine rl_int ?_))
local macro_rules | `(tactic| walk_at "d1") => `(tactic| (with_reducible refine wt_or ?_))
local macro_rules | `(tactic| walk_at "d1") => `(tactic| (with_reducible refine rv_lt ?_))
local macro_rules | `(tactic| walk_at "d1") => `(tactic| (with_reducible refine rv_add ?_))
local macro_rules | `(tactic| walk_at "d1") => `(tactic| (with_reducible refine we_cb ?_))
local macro_rules | `(tactic| walk_at "d1") => `(tactic| (with_reducible refine ws_set ?_))
local macro_rules | `(tactic| walk_at "d1") => `(tactic| (with_reducible refine rv_ix1 ?_))
local macro_rules | `(tactic| walk_at "d1") => `(tactic| (with_reducible refine wt_and ?_))
local macro_rules | `(tactic| walk_at "d1") => `(tactic| (with_reducible refine we_call0 ?_))
local macro_rules | `(tactic| walk_at "d1") => `(tactic| ((with_reducible refine br_t ?h1 ?_); (case h1 => walk_at "t")))
local macro_rules | `(tactic| walk_at "d1") => `(tactic| ((with_reducible refine rv_inT ?a1 ?a2 ?_); (case a1 => rfl); (case a2 => first | rfl | decide +kernel)))
local macro_rules | `(tactic| walk_at "d1") => `(tactic| ((with_reducible refine len_and ?h1 ?_); (case h1 => first | decide | (simp; done) | (simp; omega))))
local macro_rules | `(tactic| walk_at "d1") => `(tactic| ((with_reducible refine br_f ?h1 ?_); (case h1 => walk_at "t")))
local macro_rules | `(tactic| walk_at "d1") => `(tactic| (with_reducible refine ⟨_, rfl, ?_⟩))
local macro_rules | `(tactic| walk_at "d1") => `(tactic| (with_reducible refine ws_ret ?_))
local macro_rules | `(tactic| walk_at "d1") => `(tactic| (with_reducible refine rv_eqS ?_))
local macro_rules | `(tactic| walk_at "d1") => `(tactic| (with_reducible refine we_tup ?_))
local macro_rules | `(tactic| walk_at "d1") => `(tactic| (with_reducible refine rv_ix0 ?_))
local macro_rules | `(tactic| walk_at "d1") => `(tactic| (with_reducible refine ws_next ?_))
local macro_rules | `(tactic| walk_at "d1") => `(tactic| (with_reducible refine ws_if ?_))
local macro_rules | `(tactic| walk_at "d1") => `(tactic| (with_reducible refine wt_test ?_))
local macro_rules | `(tactic| walk_at "d1") => `(tactic| (with_reducible refine ws_seq ?_))
local macro_rules | `(tactic| walk_at "d1") => `(tactic| (with_reducible refine wa_nil ?_))
local macro_rules | `(tactic| walk_at "d1") => `(tactic| (with_reducible refine we_int ?_))
local macro_rules | `(tactic| walk_at "d1") => `(tactic| (with_reducible refine we_str ?_))
local macro_rules | `(tactic| walk_at "d1") => `(tactic| (with_reducible refine we_op ?_))
local macro_rules | `(tactic| walk_at "d1") => `(tactic| ((with_reducible refine' we_var ?h1 ?_); (case h1 => exact rfl)))
local macro_rules | `(tactic| walk_at "d1") => `(tactic| (with_reducible refine wa_cons ?_))
local macro_rules | `(tactic| walk_at "d") => `(tactic| repeat (walk_at "d1"))
theorem sc__law_same : FnScope ["_law_told", "_law_due", "_law_x", "_law_y"] ["_law_told", "_law_due"] (defScope s__law_same) := ⟨rfl, rfl, rfl, by decide +kernel, rfl, by decide +kernel, by decide +kernel⟩
theorem sc__law_draw : FnScope ["_law_well_here", "_law_many", "_law_figure", "_law_seed"] ["_law_well_here", "_law_many"] (defScope s__law_draw) := ⟨rfl, rfl, rfl, by decide +kernel, rfl, by decide +kernel, by decide +kernel⟩
theorem sc__law_pick : FnScope ["_law_well_here", "_law_some"] ["_law_well_here", "_law_some"] (defScope s__law_pick) := ⟨rfl, rfl, rfl, by decide +kernel, rfl, by decide +kernel, by decide +kernel⟩
theorem sc__law_number : FnScope ["_law_well_here", "_law_branch"] ["_law_well_here"] (defScope s__law_number) := ⟨rfl, rfl, rfl, by decide +kernel, rfl, by decide +kernel, by decide +kernel⟩
mutual
def sameD : Dv → Bool
  | .bl _ => true
  | .int _ => true
  | .str _ => true
  | .tup xs => sameDs xs
  | _ => false
def sameDs : List Dv → Bool
  | [] => true
  | x :: xs => sameD x && sameDs xs
end
theorem sameDs_mem : ∀ {xs : List Dv} {x : Dv}, sameDs xs = true → x ∈ xs → sameD x = true
  | y :: ys, x, h, hm => by
    have h' : (sameD y && sameDs ys) = true := h
    rw [Bool.and_eq_true] at h'
    rcases List.mem_cons.mp hm with rfl | hm
    · exact h'.1
    · exact sameDs_mem h'.2 hm
theorem depDs_mem : ∀ {xs : List Dv} {x : Dv}, x ∈ xs → depD x ≤ depDs xs
  | y :: ys, x, hm => by
    rw [depDs]
    rcases List.mem_cons.mp hm with rfl | hm
    · omega
    · have := depDs_mem hm
      omega
mutual
def wideD : Dv → Bool
  | .tup xs => decide (xs.length ≤ 1000000) && wideDs xs
  | _ => true
def wideDs : List Dv → Bool
  | [] => true
  | x :: xs => wideD x && wideDs xs
end
theorem wideDs_of : ∀ {xs : List Dv}, wideDs xs = true → ∀ x ∈ xs, wideD x = true
  | y :: ys, h, x, hm => by
    have h' : (wideD y && wideDs ys) = true := h
    rw [Bool.and_eq_true] at h'
    rcases List.mem_cons.mp hm with rfl | hm
    · exact h'.1
    · exact wideDs_of h'.2 x hm
theorem wideDs_mem {xs : List Dv} {x : Dv} (h : wideD (.tup xs) = true) (hm : x ∈ xs) : wideD x = true := by
  have h' : (decide (xs.length ≤ 1000000) && wideDs xs) = true := h
  rw [Bool.and_eq_true] at h'
  exact wideDs_of h'.2 x hm
theorem wide_len {x : Dv} {ys : List Dv} (h : wideD x = true) (e : x = .tup ys) : ys.length ≤ 1000000 := by
  subst e
  have h' : (decide (ys.length ≤ 1000000) && wideDs ys) = true := h
  rw [Bool.and_eq_true] at h'
  exact of_decide_eq_true h'.1
def T_same (n : Nat) : SpD := fun xs M Q => ∃ d : Dv, xs = [d, d] ∧ sameD d = true ∧ (∀ xs, d = .tup xs → xs.length ≤ 1000000) ∧ depD d < n ∧ wideD d = true ∧ ∀ M', MEx M M' → Q (.bl true) M'
section
variable {P : Program} {w : World} {K : PySem.W.Frag} {mg : Str → Option Value} {base : Heap}
theorem step__law_same (G : Glb K mg) {n : Nat} (c__law_same : Cal P w K mg base n "_law_same" (T_same n) []) : Cal P w K mg base (n + 1) "_law_same" (T_same (n + 1)) [] := by
  refine cal_mk (ps := ["_law_told", "_law_due"]) G.d__law_same (fun _ _ _ _ _ _ us hl => match us, hl with | [_, _], _ => rfl) sc__law_same (fun xs M Q h => by obtain ⟨d, rfl, _⟩ := h; rfl) fun f cdv A outer s H E hr => ⟨_, (pss_cons (ps_if (pt_val (pe_callB (call_isiK' (K := K) rfl) (by rfl) G.b_isinstance (by decide +kernel) (pa_cons (pv 1) (pa_cons (pe_bltn (v := .ty "tuple") (u := .type "tuple") (by rfl) G.b_tuple (by decide +kernel) rfl) pa_nil))))
        (pss_one (ps_ret (pe_and (pe_callB (call_isiK' (K := K) rfl) (by rfl) G.b_isinstance (by decide +kernel) (pa_cons (pv 0) (pa_cons (pe_bltn (v := .ty "tuple") (u := .type "tuple") (by rfl) G.b_tuple (by decide +kernel) rfl) pa_nil))) (pe_and (pe_cmpR op_eq (pe_callB (call_lenK (K := K) rfl) (by rfl) G.b_len PySem.boot_len (pa_cons (pv 0) pa_nil)) (pe_callB (call_lenK (K := K) rfl) (by rfl) G.b_len PySem.boot_len (pa_cons (pv 1) pa_nil)) (nomark _)) (pe_one (pe_callB (cr_allK (K := K) rfl rfl) (by rfl) G.b_all (by decide +kernel) (pa_cons (pe_lc (own := [("_law_x", 2), ("_law_y", 3)]) (by rfl) sc__law_same.nd (pi_zipK (K := K) rfl rfl G.b_zip (pa_cons (pv 0) (pa_cons (pv 1) pa_nil))) (blkOk_by (N := ["_law_told", "_law_due", "_law_x", "_law_y"]) (sc := defScope s__law_same) (by decide +kernel)) (fun _ _ _ _ _ => (pg_tupK (K := K) (n := 2) rfl rfl (pgs_cons (pg_name (i := 2) sc__law_same.nd rfl (.inl rfl)) (pgs_cons (pg_name (i := 3) sc__law_same.nd rfl (.inl rfl)) pgs_nil)) (by rfl) (by rfl))) (fun _ _ _ _ _ => pts_nil) (fun _ _ _ _ _ => (pe_cal c__law_same hr (by omega) ⟨rfl, rfl, rfl, rfl, rfl⟩ rfl (pa_cons (pv 2) (pa_cons (pv 3) pa_nil))))) pa_nil)))))))
        pss_nil)
      (pss_cons (ps_if (pt_cmpR op_isN (pv 1) pe_non (nomark _))
        (pss_one (ps_ret (pe_cmpR op_isN (pv 0) pe_non (nomark _))))
        pss_nil)
      (pss_cons (ps_if (pt_val (pe_callB (call_isiK' (K := K) rfl) (by rfl) G.b_isinstance (by decide +kernel) (pa_cons (pv 1) (pa_cons (pe_bltn (v := .ty "bool") (u := .type "bool") (by rfl) G.b_bool (by decide +kernel) rfl) pa_nil))))
        (pss_one (ps_ret (pe_and (pe_callB (call_isiK' (K := K) rfl) (by rfl) G.b_isinstance (by decide +kernel) (pa_cons (pv 0) (pa_cons (pe_bltn (v := .ty "bool") (u := .type "bool") (by rfl) G.b_bool (by decide +kernel) rfl) pa_nil))) (pe_one (pe_cmpR op_eq (pv 0) (pv 1) (nomark _))))))
        pss_nil)
      (pss_cons (ps_if (pt_val (pe_callB (call_isiK' (K := K) rfl) (by rfl) G.b_isinstance (by decide +kernel) (pa_cons (pv 1) (pa_cons (pe_bltn (v := .ty "str") (u := .type "str") (by rfl) G.b_str (by decide +kernel) rfl) pa_nil))))
        (pss_one (ps_ret (pe_and (pe_callB (call_isiK' (K := K) rfl) (by rfl) G.b_isinstance (by decide +kernel) (pa_cons (pv 0) (pa_cons (pe_bltn (v := .ty "str") (u := .type "str") (by rfl) G.b_str (by decide +kernel) rfl) pa_nil))) (pe_one (pe_cmpR op_eq (pv 0) (pv 1) (nomark _))))))
        pss_nil)
      (pss_one (ps_ret (pe_and (pe_callB (call_isiK' (K := K) rfl) (by rfl) G.b_isinstance (by decide +kernel) (pa_cons (pv 0) (pa_cons (pe_bltn (v := .ty "int") (u := .type "int") (by rfl) G.b_int (by decide +kernel) rfl) pa_nil))) (pe_and (pe_not (pe_callB (call_isiK' (K := K) rfl) (by rfl) G.b_isinstance (by decide +kernel) (pa_cons (pv 0) (pa_cons (pe_bltn (v := .ty "bool") (u := .type "bool") (by rfl) G.b_bool (by decide +kernel) rfl) pa_nil)))) (pe_one (pe_cmpR op_eq (pv 0) (pv 1) (nomark _))))))))))), fun xs M Q h => ?_⟩
  obtain ⟨d, rfl, hs, hl, hd, hwd, q⟩ := h
  cases d with
  | bl b =>
    walk_at "d"
    refine rv_eqB ?_
    rw [decide_eq_true rfl]
    exact q M .refl
  | int i =>
    walk_at "d"
    refine rv_eqI ?_
    rw [decide_eq_true rfl]
    exact q M .refl
  | str z =>
    walk_at "d"
    rw [decide_eq_true rfl]
    exact q M .refl
  | tup xs =>
    have hlen := hl xs rfl
    walk_at "d"
    refine rl_lenT ?_
    walk_at "d"
    refine rl_lenT ?_
    walk_at "d"
    refine rv_eqI ?_
    walk_at "d"
    refine br_t (decide_eq_true rfl) ?_
    walk_at "d"
    have hz : zipD xs xs = xs.map fun x => .tup [x, x] := by
      clear hl hlen hs hd hwd q
      induction xs with
      | nil => rfl
      | cons x xs ih =>
        show Dv.tup [x, x] :: zipD xs xs = _
        rw [ih]
        rfl
    refine we_lc (α := Dv) (wi_zip ?_)
    walk_at "d"
    refine fun a b => ⟨xs, fun x => .tup [x, x], fun _ => true, fun _ => .bl true, by rw [← hz]; exact yl_zip, keeps_zip, hlen, fun x hx M2 h2 => ⟨_, wgc_pair (by decide) (by decide), wt_yes ⟨.refl, rfl, fun _ => ?_⟩⟩, fun r M2 nr h2 hr => ?_⟩
    · walk_at "d"
      refine ⟨x, rfl, sameDs_mem hs hx, fun ys e => ?_, ?_, ?_, fun M3 h3 => ⟨h3, rfl⟩⟩
      · exact wide_len (wideDs_mem hwd hx) e
      · have := depDs_mem hx
        rw [depD] at hd
        omega
      · exact wideDs_mem hwd hx
    · rw [filter_all] at hr
      walk_at "d"
      refine rl_all (bs := xs.map fun _ => true) (by rw [hr, List.map_map]; rfl) ?_
      have e : (xs.map fun _ => true).all id = true := by
        rw [List.all_eq_true]
        intro x hx
        obtain ⟨_, _, rfl⟩ := List.mem_map.mp hx
        rfl
      rw [e]
      exact q M2 h2
  | _ => cases hs
/-! ### draws -/
/-- the well: three whole numbers, none below 0 -/
def Well (M : Mm) (p : Addr) : Prop := ∃ a b c : Nat, M p = some (.lst [.int (a : Int), .int (b : Int), .int (c : Int)])
def T_draw : SpD := fun xs M Q => ∃ (p : Addr) (m : Nat), xs = [.adr p, .int (m : Int)] ∧ Well M p ∧ 0 < m ∧ m < 4000000000 ∧ ∀ M' r, r < m → MExB p M M' → Well M' p → Q (.int ((r : Nat) : Int)) M'
theorem cdivp {a b : Int} (h1 : 0 < b) (h2 : b < 4000000000) : CDivP a b := ⟨h1, PyProof.noPylong_of_log2 (by
  have h3 : b.natAbs < 2 ^ 32 := by omega
  have h4 : b.natAbs ≠ 0 := by omega
  have := (Nat.log2_lt h4).mpr h3
  omega)⟩
theorem cal__law_draw (G : Glb K mg) : Cal P w K mg base 1 "_law_draw" T_draw [] := by
  refine cal_mk (ps := ["_law_well_here", "_law_many"]) G.d__law_draw (fun _ _ _ _ _ _ us hl => match us, hl with | [_, _], _ => rfl) sc__law_draw (fun xs M Q h => by obtain ⟨p, m, rfl, _⟩ := h; rfl) fun f cdv A outer s H E hr => ⟨_, (pss_cons (ps_if (pt_cmpR op_gt (pe_ix (ix_listK (K := K) rfl) (pv 0) pe_int (fun _ _ => rfl)) pe_int (nomark _))
        (pss_cons (ps_asg (pe_callB call_divmodW (by rfl) G.b_divmod (by decide +kernel) (pa_cons (pe_ix (ix_listK (K := K) rfl) (pv 0) pe_int (fun _ _ => rfl)) (pa_cons (pv 1) pa_nil))) (pg_tupK (K := K) (n := 2) rfl rfl (pgs_cons (pg_sub (pv 0) pe_int set_list) (pgs_cons (pg_name (i := 2) sc__law_draw.nd rfl (.inl rfl)) pgs_nil)) (by rfl) (by rfl)))
        (pss_one (ps_ret (pv 2))))
        pss_nil)
      (pss_cons (ps_asg (pe_op op_add (pe_ix (ix_listK (K := K) rfl) (pv 0) pe_int (fun _ _ => rfl)) pe_int) (pg_sub (pv 0) pe_int set_list))
      (pss_cons (ps_set (i := 3) sc__law_draw.nd rfl (.inl rfl) (pe_op op_mod (pe_callTy call_int1 (by rfl) G.b_int (by decide +kernel) (pa_cons (pe_op op_add (pe_ix (ix_listK (K := K) rfl) (pv 0) pe_int (fun _ _ => rfl)) (pe_op op_mul pe_int (pe_ix (ix_listK (K := K) rfl) (pv 0) pe_int (fun _ _ => rfl)))) pa_nil)) pe_int))
      (pss_cons (ps_asg (pe_op op_mod (pe_callTy call_int1 (by rfl) G.b_int (by decide +kernel) (pa_cons (pe_op op_add (pe_op op_mul (pv 3) (pe_op op_add (pe_op op_mod (pe_callTy call_int1 (by rfl) G.b_int (by decide +kernel) (pa_cons (pv 3) pa_nil)) pe_int) pe_int)) (pe_op op_mul pe_int (pe_ix (ix_listK (K := K) rfl) (pv 0) pe_int (fun _ _ => rfl)))) pa_nil)) pe_int) (pg_sub (pv 0) pe_int set_list))
      (pss_one (ps_ret (pe_op op_mod (pe_callTy call_int1 (by rfl) G.b_int (by decide +kernel) (pa_cons (pe_op op_fdiv (pe_ix (ix_listK (K := K) rfl) (pv 0) pe_int (fun _ _ => rfl)) pe_int) pa_nil)) (pv 1)))))))), fun xs M Q h => ?_⟩
  obtain ⟨p, m, rfl, ⟨a, b, c, hp⟩, hm, hm2, q⟩ := h
  walk_at "d"
  refine rv_ixL hp rfl ?_
  walk_at "d"
  by_cases ha : 0 < a
  · refine br_t (decide_eq_true (by omega)) ?_
    walk_at "d"
    refine rv_ixL hp rfl ?_
    walk_at "d"
    refine rl_divmod (cdivp (by omega) (by omega)) ?_
    refine wg_tup rfl (wgs_cons (wg_sub ?_))
    walk_at "d"
    refine ⟨p, _, 0, _, rfl, rfl, hp, rfl, ?_⟩
    refine wgs_cons (wg_name (wgs_nil ?_))
    walk_at "d"
    have e : (a : Int) % (m : Int) = ((a % m : Nat) : Int) := by omega
    rw [e]
    refine q _ _ (Nat.mod_lt _ hm) .put ⟨a / m, b, c, ?_⟩
    rw [mupd_same]
    have e2 : (a : Int) / (m : Int) = ((a / m : Nat) : Int) := by omega
    rw [e2]
    rfl
  · refine br_f (decide_eq_false (by omega)) ?_
    walk_at "d"
    refine rv_ixL hp rfl ?_
    walk_at "d"
    refine wg_sub ?_
    walk_at "d"
    refine ⟨p, _, 2, _, rfl, rfl, hp, rfl, ?_⟩
    have hp1 : mupd M p (.lst ([.int (a : Int), .int (b : Int), .int (c : Int)].set 2 (.int ((c : Int) + 1)))) p = some (.lst [.int (a : Int), .int (b : Int), .int ((c + 1 : Nat) : Int)]) := by
      rw [mupd_same]
      have e2 : ((c : Int) + 1) = ((c + 1 : Nat) : Int) := by omega
      rw [e2]
      rfl
    have hx1 : MExB p M (mupd M p (.lst ([.int (a : Int), .int (b : Int), .int (c : Int)].set 2 (.int ((c : Int) + 1))))) := .put
    generalize mupd M p (.lst ([.int (a : Int), .int (b : Int), .int (c : Int)].set 2 (.int ((c : Int) + 1)))) = M1 at hp1 hx1
    walk_at "d"
    refine rv_ixL hp1 rfl ?_
    walk_at "d"
    refine rv_ixL hp1 rfl ?_
    refine rv_mul (.inl ⟨by omega, by omega⟩) ?_
    walk_at "d"
    have hs1 := Int.emod_nonneg ((b : Int) + 77003 * ((c + 1 : Nat) : Int)) (show (2147483579 : Int) ≠ 0 by omega)
    have hs2 := Int.emod_lt_of_pos ((b : Int) + 77003 * ((c + 1 : Nat) : Int)) (show (0 : Int) < 2147483579 by omega)
    generalize ((b : Int) + 77003 * ((c + 1 : Nat) : Int)) % 2147483579 = sd at hs1 hs2
    walk_at "d"
    have hu1 := Int.emod_nonneg sd (show (6007 : Int) ≠ 0 by omega)
    have hu2 := Int.emod_lt_of_pos sd (show (0 : Int) < 6007 by omega)
    generalize sd % 6007 = u at hu1 hu2
    refine rv_mul (.inl ⟨by omega, by omega⟩) ?_
    walk_at "d"
    refine rv_ixL hp1 rfl ?_
    refine rv_mul (.inl ⟨by omega, by omega⟩) ?_
    walk_at "d"
    have hv1 := Int.emod_nonneg (sd * (u + 30011) + 17 * ((c + 1 : Nat) : Int)) (show (2147483579 : Int) ≠ 0 by omega)
    generalize (sd * (u + 30011) + 17 * ((c + 1 : Nat) : Int)) % 2147483579 = v at hv1
    refine wg_sub ?_
    walk_at "d"
    refine ⟨p, _, 1, _, rfl, rfl, hp1, rfl, ?_⟩
    obtain ⟨v, rfl⟩ : ∃ v' : Nat, v = (v' : Int) := ⟨v.toNat, by omega⟩
    have hp2 : mupd M1 p (.lst ([.int (a : Int), .int (b : Int), .int ((c + 1 : Nat) : Int)].set 1 (.int (v : Int)))) p = some (.lst [.int (a : Int), .int (v : Int), .int ((c + 1 : Nat) : Int)]) := mupd_same
    have hx2 : MExB p M (mupd M1 p (.lst ([.int (a : Int), .int (b : Int), .int ((c + 1 : Nat) : Int)].set 1 (.int (v : Int))))) := hx1.trans .put
    generalize mupd M1 p (.lst ([.int (a : Int), .int (b : Int), .int ((c + 1 : Nat) : Int)].set 1 (.int (v : Int)))) = M2 at hp2 hx2
    walk_at "d"
    refine rv_ixL hp2 rfl ?_
    walk_at "d"
    refine rv_mod (show (0 : Int) < (m : Int) by omega) ?_
    have e : ((v : Int) / 719) % (m : Int) = ((v / 719 % m : Nat) : Int) := by
      rw [Int.natCast_emod, Int.natCast_ediv]
      rfl
    rw [e]
    exact q M2 _ (Nat.mod_lt _ hm) hx2 ⟨a, v, c + 1, hp2⟩
end
end FS
set_option maxHeartbeats 4000000
namespace FS
open PySem PySem.Spec PyProof.Rows L2
local macro_rules | `(tactic| walk_at "t") => `(tactic| exact use_hole (by assumption))
local macro_rules | `(tactic| walk_at "t") => `(tactic| exact use_at (by assumption))
local macro_rules | `(tactic| walk_at "t") => `(tactic| exact use_name (by assumption))
local macro_rules | `(tactic| walk_at "t") => `(tactic| exact use_num (by assumption))
local macro_rules | `(tactic| walk_at "t") => `(tactic| exact leaf_leaves (by assumption))
local macro_rules | `(tactic| walk_at "t") => `(tactic| exact use_leaves (by assumption))
local macro_rules | `(tactic| walk_at "t") => `(tactic| assumption)
local macro_rules | `(tactic| walk_at "t") => `(tactic| decide +kernel)
local macro_rules | `(tactic| walk_at "t") => `(tactic| rfl)
local macro_rules | `(tactic| walk_at "d1") => `(tactic| (with_reducible refine ⟨_, _, _, rfl, ?_⟩))
local macro_rules | `(tactic| walk_at "d1") => `(tactic| (with_reducible refine ⟨_, _, rfl, ?_⟩))
local macro_rules | `(tactic| walk_at "d1") => `(tactic| ((with_reducible refine rv_fdiv ?h1 ?_); (case h1 => exact ⟨by decide, by decide⟩)))
local macro_rules | `(tactic| walk_at "d1") => `(tactic| ((with_reducible refine rv_mod ?h1 ?_); (case h1 => (show (0 : Int) < _; decide))))
local macro_rules | `(tactic| walk_at "d1") => `(tactic| (with_reducible refine we_call (dxs := [.int 0]) (fun H => .cons (.int 0) .nil) ?_))
local macro_rules | `(tactic| walk_at "d1") => `(tactic| ((with_reducible refine' we_c ?h1 ?_); (case h1 => assumption)))
local macro_rules | `(tactic| walk_at "d1") => `(tactic| (with_reducible refine wt_yes ?_))
local macro_rules | `(tactic| walk_at "d1") => `(tactic| (with_reducible refine wg_name ?_))
local macro_rules | `(tactic| walk_at "d1") => `(tactic| (with_reducible refine rv_ix3 ?_))
local macro_rules | `(tactic| walk_at "d1") => `(tactic| (with_reducible refine rv_ix2 ?_))
local macro_rules | `(tactic| walk_at "d1") => `(tactic| (with_reducible refine rv_notN ?_))
local macro_rules | `(tactic| walk_at "d1") => `(tactic| (with_reducible refine rv_isN ?_))
local macro_rules | `(tactic| walk_at "d1") => `(tactic| (with_reducible refine rv_neS ?_))
local macro_rules | `(tactic| walk_at "d1") => `(tactic| (with_reducible refine rv_ge ?_))
local macro_rules | `(tactic| walk_at "d1") => `(tactic| (with_reducible refine rv_gt ?_))
local macro_rules | `(tactic| walk_at "d1") => `(tactic| (with_reducible refine rv_le ?_))
local macro_rules | `(tactic| walk_at "d1") => `(tactic| (with_reducible refine rv_sub ?_))
local macro_rules | `(tactic| walk_at "d1") => `(tactic| (with_reducible refine wo_some ?_))
local macro_rules | `(tactic| walk_at "d1") => `(tactic| (with_reducible refine wo_none ?_))
local macro_rules | `(tactic| walk_at "d1") => `(tactic| (with_reducible refine we_then ?_))
local macro_rules | `(tactic| walk_at "d1") => `(tactic| (with_reducible refine we_un ?_))
local macro_rules | `(tactic| walk_at "d1") => `(tactic| (with_reducible refine we_chain ?_))
local macro_rules | `(tactic| walk_at "d1") => `(tactic| (with_reducible refine we_if ?_))
local macro_rules | `(tactic| walk_at "d1") => `(tactic| (with_reducible refine we_not ?_))
local macro_rules | `(tactic| walk_at "d1") => `(tactic| (with_reducible refine we_or ?_))
local macro_rules | `(tactic| walk_at "d1") => `(tactic| (with_reducible refine we_and ?_))
local macro_rules | `(tactic| walk_at "d1") => `(tactic| (with_reducible refine wt_not ?_))
local macro_rules | `(tactic| walk_at "d1") => `(tactic| (with_reducible refine wt_B ?_))
local macro_rules | `(tactic| walk_at "d1") => `(tactic| (with_reducible refine we_slT ?_))
local macro_rules | `(tactic| walk_at "d1") => `(tactic| (with_reducible refine we_lst ?_))
local macro_rules | `(tactic| walk_at "d1") => `(tactic| (with_reducible refine we_ty ?_))
local macro_rules | `(tactic| walk_at "d1") => `(tactic| (with_reducible refine we_non ?_))
local macro_rules | `(tactic| walk_at "d1") => `(tactic| (with_reducible refine we_bl ?_))
local macro_rules | `(tactic| walk_at "d1") => `(tactic| (with_reducible refine ws_asg ?_))
local macro_rules | `(tactic| walk_at "d1") => `(tactic| (with_reducible refine ws_par3 ?_))
local macro_rules | `(tactic| walk_at "d1") => `(tactic| (with_reducible refine ws_par ?_))
local macro_rules | `(tactic| walk_at "d1") => `(tactic| (with_reducible refine ws_drop ?_))
local macro_rules | `(tactic| walk_at "d1") => `(tactic| (with_reducible refine ru_neg ?_))
local macro_rules | `(tactic| walk_at "d1") => `(tactic| (with_reducible refine rl_isi_bb ?_))
local macro_rules | `(tactic| walk_at "d1") => `(tactic| (with_reducible refine rl_isi_bt ?_))
local macro_rules | `(tactic| walk_at "d1") => `(tactic| (with_reducible refine rl_isi_sb ?_))
local macro_rules | `(tactic| walk_at "d1") => `(tactic| (with_reducible refine rl_isi_st ?_))
local macro_rules | `(tactic| walk_at "d1") => `(tactic| (with_reducible refine rl_isi_is ?_))
local macro_rules | `(tactic| walk_at "d1") => `(tactic| (with_reducible refine rl_isi_it ?_))
local macro_rules | `(tactic| walk_at "d1") => `(tactic| (with_reducible refine rl_isi_ib ?_))
local macro_rules | `(tactic| walk_at "d1") => `(tactic| (with_reducible refine rl_isi_ii ?_))
local macro_rules | `(tactic| walk_at "d1") => `(tactic| (with_reducible refine rl_isi_ss ?_))
local macro_rules | `(tactic| walk_at "d1") => `(tactic| (with_reducible refine rl_isi_tt ?_))
local macro_rules | `(tactic| walk_at "d1") => `(tactic| (with_reducible refine rl_abs ?_))
local macro_rules | `(tactic| walk_at "d1") => `(tactic| (with_reducible refine rl_int ?_))
local macro_rules | `(tactic| walk_at "d1") => `(tactic| (with_reducible refine wt_or ?_))
local macro_rules | `(tactic| walk_at "d1") => `(tactic| (with_reducible refine rv_lt ?_))
local macro_rules | `(tactic| walk_at "d1") => `(tactic| (with_reducible refine rv_add ?_))
local macro_rules | `(tactic| walk_at "d1") => `(tactic| (with_reducible refine we_cb ?_))
local macro_rules | `(tactic| walk_at "d1") => `(tactic| (with_reducible refine ws_set ?_))
local macro_rules | `(tactic| walk_at "d1") => `(tactic| (with_reducible refine rv_ix1 ?_))
local macro_rules | `(tactic| walk_at "d1") => `(tactic| (with_reducible refine wt_and ?_))
local macro_rules | `(tactic| walk_at "d1") => `(tactic| (with_reducible refine we_call0 ?_))
local macro_rules | `(tactic| walk_at "d1") => `(tactic| ((with_reducible refine br_t ?h1 ?_); (case h1 => walk_at "t")))
local macro_rules | `(tactic| walk_at "d1") => `(tactic| ((with_reducible refine rv_inT ?a1 ?a2 ?_); (case a1 => rfl); (case a2 => first | rfl | decide +kernel)))
local macro_rules | `(tactic| walk_at "d1") => `(tactic| ((with_reducible refine len_and ?h1 ?_); (case h1 => first | decide | (simp; done) | (simp; omega))))
local macro_rules | `(tactic| walk_at "d1") => `(tactic| ((with_reducible refine br_f ?h1 ?_); (case h1 => walk_at "t")))
local macro_rules | `(tactic| walk_at "d1") => `(tactic| (with_reducible refine ⟨_, rfl, ?_⟩))
local macro_rules | `(tactic| walk_at "d1") => `(tactic| (with_reducible refine ws_ret ?_))
local macro_rules | `(tactic| walk_at "d1") => `(tactic| (with_reducible refine rv_eqS ?_))
local macro_rules | `(tactic| walk_at "d1") => `(tactic| (with_reducible refine we_tup ?_))
local macro_rules | `(tactic| walk_at "d1") => `(tactic| (with_reducible refine rv_ix0 ?_))
local macro_rules | `(tactic| walk_at "d1") => `(tactic| (with_reducible refine ws_next ?_))
local macro_rules | `(tactic| walk_at "d1") => `(tactic| (with_reducible refine ws_if ?_))
local macro_rules | `(tactic| walk_at "d1") => `(tactic| (with_reducible refine wt_test ?_))
local macro_rules | `(tactic| walk_at "d1") => `(tactic| (with_reducible refine ws_seq ?_))
local macro_rules | `(tactic| walk_at "d1") => `(tactic| (with_reducible refine wa_nil ?_))
local macro_rules | `(tactic| walk_at "d1") => `(tactic| (with_reducible refine we_int ?_))
local macro_rules | `(tactic| walk_at "d1") => `(tactic| (with_reducible refine we_str ?_))
local macro_rules | `(tactic| walk_at "d1") => `(tactic| (with_reducible refine we_op ?_))
local macro_rules | `(tactic| walk_at "d1") => `(tactic| ((with_reducible refine' we_var ?h1 ?_); (case h1 => exact rfl)))
local macro_rules | `(tactic| walk_at "d1") => `(tactic| (with_reducible refine wa_cons ?_))
local macro_rules | `(tactic| walk_at "d") => `(tactic| repeat (walk_at "d1"))
theorem sc__law_well : FnScope ["_law_script", "_law_turn_here", "_law_mixed", "_law_cell", "_law_own"] ["_law_script", "_law_turn_here"] (defScope s__law_well) := ⟨rfl, rfl, rfl, by decide +kernel, rfl, by decide +kernel, by decide +kernel⟩
theorem sc__law_leaf : FnScope ["_law_well_here", "_law_kind", "_law_seen", "_law_many", "_law_some", "_law_word", "_law_k"] ["_law_well_here", "_law_kind", "_law_seen", "_law_many"] (defScope s__law_leaf) := ⟨rfl, rfl, rfl, by decide +kernel, rfl, by decide +kernel, by decide +kernel⟩
def T_well : SpD := fun xs M Q => ∃ ns : List Int, xs = [.frl ns, .int 0] ∧ ns.length ≤ 1000000 ∧ ∀ M' p, MEx M M' → Well M' p → Q (.adr p) M'
def T_pick : SpD := fun xs M Q => ∃ (p : Addr) (ds : List Dv), xs = [.adr p, .tup ds] ∧ Well M p ∧ ds ≠ [] ∧ ds.length ≤ 1000000 ∧ ∀ M' d, d ∈ ds → MExB p M M' → Well M' p → Q d M'
def T_pickL : SpD := fun xs M Q => ∃ (p r : Addr) (ds : List Dv), xs = [.adr p, .adr r] ∧ Well M p ∧ r ≠ p ∧ M r = some (.lst ds) ∧ ds ≠ [] ∧ ds.length ≤ 1000000 ∧ ∀ M' d, d ∈ ds → MExB p M M' → Well M' p → Q d M'
def T_num : SpD := fun xs M Q => ∃ (p : Addr), xs = [.adr p] ∧ Well M p ∧ ∀ M' n, Tm.inR n = true → MExB p M M' → Well M' p → Q (Tm.num n).enc M'
theorem pow14 : ((10 : Int) ^ (14 : Int).toNat) = 100000000000000 := by decide +kernel
theorem cpow14 : CPow 10 14 := ⟨by decide, by decide, by decide +kernel⟩
section
variable {P : Program} {w : World} {K : PySem.W.Frag} {mg : Str → Option Value} {base : Heap}
theorem cal__law_pick (G : Glb K mg) (c__law_draw : Cal P w K mg base 1 "_law_draw" T_draw []) : Cal P w K mg base 2 "_law_pick" T_pick [] := by
  refine cal_mk (ps := ["_law_well_here", "_law_some"]) G.d__law_pick (fun _ _ _ _ _ _ us hl => match us, hl with | [_, _], _ => rfl) sc__law_pick (fun xs M Q h => by obtain ⟨p, m, rfl, _⟩ := h; rfl) fun f cdv A outer s H E hr => ⟨_, (pss_one (ps_ret (pe_ix (ix_tupK (K := K) rfl) (pv 1) (pe_cal c__law_draw hr (by omega) ⟨rfl, rfl, rfl, rfl, rfl⟩ rfl (pa_cons (pv 0) (pa_cons (pe_callB (call_lenK (K := K) rfl) (by rfl) G.b_len PySem.boot_len (pa_cons (pv 1) pa_nil)) pa_nil))) (fun _ _ => rfl)))), fun xs M Q h => ?_⟩
  obtain ⟨p, ds, rfl, hp, hn, hl, q⟩ := h
  have hpos : 0 < ds.length := List.length_pos_iff.mpr hn
  walk_at "d"
  refine rl_lenT ?_
  walk_at "d"
  refine ⟨p, ds.length, rfl, hp, hpos, by omega, fun M' r hr h1 h2 => ?_⟩
  refine rv_ixT (atI_nat (List.getElem?_eq_getElem hr)) ?_
  exact q M' _ (List.getElem_mem hr) h1 h2
end
section
variable {P : Program} {w : World} {K : PySem.W.Frag} {mg : Str → Option Value} {base : Heap}
theorem cal_pickL (G : Glb K mg) (c__law_draw : Cal P w K mg base 1 "_law_draw" T_draw []) : Cal P w K mg base 2 "_law_pick" T_pickL [] := by
  refine cal_mk (ps := ["_law_well_here", "_law_some"]) G.d__law_pick (fun _ _ _ _ _ _ us hl => match us, hl with | [_, _], _ => rfl) sc__law_pick (fun xs M Q h => by obtain ⟨p, m, ds, rfl, _⟩ := h; rfl) fun f cdv A outer s H E hr => ⟨_, (pss_one (ps_ret (pe_ix (ix_listK (K := K) rfl) (pv 1) (pe_cal c__law_draw hr (by omega) ⟨rfl, rfl, rfl, rfl, rfl⟩ rfl (pa_cons (pv 0) (pa_cons (pe_callB (call_lenK (K := K) rfl) (by rfl) G.b_len PySem.boot_len (pa_cons (pv 1) pa_nil)) pa_nil))) (fun _ _ => rfl)))), fun xs M Q h => ?_⟩
  obtain ⟨p, r, ds, rfl, hp, hne, hr2, hn, hl, q⟩ := h
  have hpos : 0 < ds.length := List.length_pos_iff.mpr hn
  walk_at "d"
  refine rl_lenL hr2 ?_
  walk_at "d"
  refine ⟨p, ds.length, rfl, hp, hpos, by omega, fun M' j hr h1 h2 => ?_⟩
  refine rv_ixL (h1 _ _ hne hr2) (atI_nat (List.getElem?_eq_getElem hr)) ?_
  exact q M' _ (List.getElem_mem hr) h1 h2
theorem cal__law_number (G : Glb K mg) (c__law_draw : Cal P w K mg base 1 "_law_draw" T_draw []) : Cal P w K mg base 2 "_law_number" T_num [] := by
  refine cal_mk (ps := ["_law_well_here"]) G.d__law_number (fun _ _ _ _ _ _ us hl => match us, hl with | [_], _ => rfl) sc__law_number (fun xs M Q h => by obtain ⟨p, rfl, _⟩ := h; rfl) fun f cdv A outer s H E hr => ⟨_, (pss_cons (ps_set (i := 1) sc__law_number.nd rfl (.inl rfl) (pe_cal c__law_draw hr (by omega) ⟨rfl, rfl, rfl, rfl, rfl⟩ rfl (pa_cons (pv 0) (pa_cons pe_int pa_nil))))
      (pss_cons (ps_if (pt_cmpR op_eq (pv 1) pe_int (nomark _))
        (pss_one (ps_ret (pe_tup (pa_cons pe_str (pa_cons (pe_op op_sub pe_int (pe_cal c__law_draw hr (by omega) ⟨rfl, rfl, rfl, rfl, rfl⟩ rfl (pa_cons (pv 0) (pa_cons pe_int pa_nil)))) pa_nil)))))
        pss_nil)
      (pss_cons (ps_if (pt_cmpR op_eq (pv 1) pe_int (nomark _))
        (pss_one (ps_ret (pe_tup (pa_cons pe_str (pa_cons (pe_op op_sub (pe_cal c__law_draw hr (by omega) ⟨rfl, rfl, rfl, rfl, rfl⟩ rfl (pa_cons (pv 0) (pa_cons pe_int pa_nil))) pe_int) pa_nil)))))
        pss_nil)
      (pss_cons (ps_if (pt_cmpR op_eq (pv 1) pe_int (nomark _))
        (pss_one (ps_ret (pe_tup (pa_cons pe_str (pa_cons (pe_op op_sub (pe_cal c__law_draw hr (by omega) ⟨rfl, rfl, rfl, rfl, rfl⟩ rfl (pa_cons (pv 0) (pa_cons pe_int pa_nil))) pe_int) pa_nil)))))
        pss_nil)
      (pss_one (ps_ret (pe_tup (pa_cons pe_str (pa_cons (pe_ix (ix_tupK (K := K) rfl) (pe_tup (pa_cons pe_int (pa_cons pe_int (pa_cons pe_int (pa_cons pe_int (pa_cons pe_int (pa_cons (pe_un un_neg pe_int) (pa_cons pe_int (pa_cons pe_int (pa_cons (pe_un un_neg pe_int) (pa_cons pe_int pa_nil))))))))))) (pe_cal c__law_draw hr (by omega) ⟨rfl, rfl, rfl, rfl, rfl⟩ rfl (pa_cons (pv 0) (pa_cons pe_int pa_nil))) (fun _ _ => rfl)) pa_nil))))))))), fun xs M Q h => ?_⟩
  obtain ⟨p, rfl, hp, q⟩ := h
  have fin : ∀ M' n, MExB p M M' → Well M' p → -999999999 ≤ n → n ≤ 999999999 → Q (.tup [.str "number", .int n]) M' := fun M' n h1 h2 h3 h4 => q M' n (decide_eq_true ⟨h3, h4⟩) h1 h2
  walk_at "d"
  refine ⟨p, 24, rfl, hp, by decide, by decide, fun M1 r0 _ h1 w1 => ?_⟩
  walk_at "d"
  refine rv_eqI ?_
  walk_at "d"
  refine ⟨fun _ => ?_, fun _ => ?_⟩
  · walk_at "d"
    refine ⟨p, 3, rfl, w1, by decide, by decide, fun M2 r hr h2 w2 => ?_⟩
    walk_at "d"
    exact fin M2 _ (h1.trans h2) w2 (by omega) (by omega)
  walk_at "d"
  refine rv_eqI ?_
  walk_at "d"
  refine ⟨fun _ => ?_, fun _ => ?_⟩
  · walk_at "d"
    refine ⟨p, 3, rfl, w1, by decide, by decide, fun M2 r hr h2 w2 => ?_⟩
    walk_at "d"
    exact fin M2 _ (h1.trans h2) w2 (by omega) (by omega)
  walk_at "d"
  refine rv_eqI ?_
  walk_at "d"
  refine ⟨fun _ => ?_, fun _ => ?_⟩
  · walk_at "d"
    refine ⟨p, 1999999999, rfl, w1, by decide, by decide, fun M2 r hr h2 w2 => ?_⟩
    walk_at "d"
    exact fin M2 _ (h1.trans h2) w2 (by omega) (by omega)
  walk_at "d"
  refine ⟨p, 10, rfl, w1, by decide, by decide, fun M2 r hr h2 w2 => ?_⟩
  have hlt : r < ([0, 1, 2, 3, 1, -1, 5, 0, -2, 7] : List Int).length := hr
  have hall : ∀ n ∈ ([0, 1, 2, 3, 1, -1, 5, 0, -2, 7] : List Int), -999999999 ≤ n ∧ n ≤ 999999999 := by decide
  have hb := hall _ (List.getElem_mem hlt)
  refine rv_ixT (d := .int (([0, 1, 2, 3, 1, -1, 5, 0, -2, 7] : List Int)[r])) (atI_nat (j := r) ?_) ?_
  · show (([0, 1, 2, 3, 1, -1, 5, 0, -2, 7] : List Int).map Dv.int)[r]? = _
    rw [List.getElem?_map, List.getElem?_eq_getElem hlt]
    rfl
  walk_at "d"
  exact fin M2 _ (h1.trans h2) w2 hb.1 hb.2
theorem cal__law_well (G : Glb K mg) : Cal P w K mg base 1 "_law_well" T_well [] := by
  refine cal_mk (ps := ["_law_script", "_law_turn_here"]) G.d__law_well (fun _ _ _ _ _ _ us hl => match us, hl with | [_, _], _ => rfl) sc__law_well (fun xs M Q h => by obtain ⟨p, rfl, _⟩ := h; rfl) fun f cdv A outer s H E hr => ⟨_, (pss_cons (ps_set (i := 2) sc__law_well.nd rfl (.inl rfl) (pe_op op_add pe_int (pe_op op_mul pe_int (pv 1))))
      (pss_cons (ps_for PassesOwn.never rfl (pi_listK (K := K) rfl (pe_slice (sl_listK (K := K) rfl) (pv 0) po_none (po_some pe_int))) (pg_name (i := 3) sc__law_well.nd rfl (.inl rfl))
        (pss_one (ps_set (i := 2) sc__law_well.nd rfl (.inl rfl) (pe_op op_mod (pe_callTy call_int1 (by rfl) G.b_int (by decide +kernel) (pa_cons (pe_op op_add (pe_op op_add (pe_op op_mul (pv 2) pe_int) (pe_op op_mod (pe_callTy call_int1 (by rfl) G.b_int (by decide +kernel) (pa_cons (pv 3) pa_nil)) pe_int)) pe_int) pa_nil)) pe_int))))
      (pss_cons (ps_set (i := 4) sc__law_well.nd rfl (.inl rfl) (pe_ifExp (pt_cmpR op_lt (pv 1) (pe_callB (call_lenK (K := K) rfl) (by rfl) G.b_len PySem.boot_len (pa_cons (pv 0) pa_nil)) (nomark _)) (pe_callTy call_int1 (by rfl) G.b_int (by decide +kernel) (pa_cons (pe_ix (ix_listK (K := K) rfl) (pv 0) (pv 1) (fun _ _ => rfl)) pa_nil)) pe_int))
      (pss_cons (ps_set (i := 2) sc__law_well.nd rfl (.inl rfl) (pe_op op_mod (pe_callTy call_int1 (by rfl) G.b_int (by decide +kernel) (pa_cons (pe_op op_add (pe_op op_add (pe_op op_mul (pv 2) pe_int) (pe_op op_mul (pe_op op_mod (pe_callTy call_int1 (by rfl) G.b_int (by decide +kernel) (pa_cons (pv 4) pa_nil)) pe_int) pe_int)) pe_int) pa_nil)) pe_int))
      (pss_one (ps_ret (pe_lst (pa_cons (pe_ifExp (PW.pt (pw_or (pt_cmpR op_lt (pv 4) pe_int (nomark _)) (pw_or1 (pt_cmpR op_ge (pv 4) (pe_op op_pow pe_int pe_int) (nomark _))))) (pe_callB call_abs (by rfl) G.b_abs (by decide +kernel) (pa_cons (pv 4) pa_nil)) pe_int) (pa_cons (pv 2) (pa_cons pe_int pa_nil)))))))))), fun xs M Q h => ?_⟩
  obtain ⟨ns, rfl, hl, q⟩ := h
  walk_at "d"
  refine rv_mul (.inl ⟨by decide, by decide⟩) ?_
  walk_at "d"
  refine ws_for (wi_lst (we_slF (we_var rfl ⟨ns, rfl, ?_⟩)))
  walk_at "d"
  intro z nz
  have ecut : cutD (ns.map .int) none (some 7) = (ns.take 7).map .int := by
    have := cut_to (ns.map .int) 7
    rw [List.map_take]
    exact this
  rw [ecut]
  have mx0 : MEx M (mupd M z (.lst ((ns.take 7).map .int))) := .new nz
  have hz : mupd M z (.lst ((ns.take 7).map .int)) z = some (.lst ((ns.take 7).map .int)) := mupd_same
  generalize mupd M z (.lst ((ns.take 7).map .int)) = M1 at mx0 hz
  refine ⟨z, _, rfl, hz, _, yl_lst, MEx, fun i ds' M' => MEx M1 M' ∧ ∃ (v : Nat) (a b : Option Dv), ds' = [some (.frl ns), some (.int 0), some (.int (v : Int)), a, b], keeps_lstX, fun i ds' M' h => h.1, ⟨.refl, 2718281, none, none, rfl⟩, fun i x ds' M' hx h => ?_, fun ds' M' h => ?_⟩
  · obtain ⟨mx, v, a, b, rfl⟩ := h
    rw [List.getElem?_map] at hx
    obtain ⟨n, hn, rfl⟩ : ∃ n, (ns.take 7)[i]? = some n ∧ x = .int n := by
      cases e : (ns.take 7)[i]? with
      | none =>
        rw [e] at hx
        cases hx
      | some n =>
        rw [e] at hx
        cases hx
        exact ⟨n, rfl, rfl⟩
    walk_at "d"
    refine rv_mul (.inr ⟨by decide, by decide⟩) ?_
    walk_at "d"
    have h1 := Int.emod_nonneg ((v : Int) * 51787 + n % 2147483549 + 11) (show (2147483579 : Int) ≠ 0 by omega)
    generalize ((v : Int) * 51787 + n % 2147483549 + 11) % 2147483579 = u at h1
    obtain ⟨u, rfl⟩ : ∃ u' : Nat, u = (u' : Int) := ⟨u.toNat, by omega⟩
    exact ⟨mx, u, _, _, rfl⟩
  · obtain ⟨mx, v, a, b, rfl⟩ := h
    walk_at "d"
    refine rl_lenF ?_
    have hown : ∀ own : Int, -(2147483549 : Int) < own % 2147483549 ∧ own % 2147483549 < 2147483549 := fun own => by
      have h1 := Int.emod_nonneg own (show (2147483549 : Int) ≠ 0 by omega)
      have h2 := Int.emod_lt_of_pos own (show (0 : Int) < 2147483549 by omega)
      omega
    have fin : ∀ (x : Int) (u : Nat) r, 0 ≤ x → M' r = none → Q (.adr r) (mupd M' r (.lst [.int x, .int (u : Int), .int 0])) := fun x u r hx nr => by
      refine q _ r ((mx0.trans mx).trans (.new nr)) ⟨x.toNat, u, 0, ?_⟩
      rw [mupd_same]
      have e : ((x.toNat : Nat) : Int) = x := by omega
      rw [e]
      rfl
    cases ns with
    | nil =>
      walk_at "d"
      refine rv_mul (.inr ⟨by decide, by decide⟩) ?_
      walk_at "d"
      refine rv_mul (.inr ⟨by decide, by decide⟩) ?_
      walk_at "d"
      have h1 := Int.emod_nonneg ((v : Int) * 39119 + (0 : Int) % 2147483549 * 27011 + 3) (show (2147483579 : Int) ≠ 0 by omega)
      generalize ((v : Int) * 39119 + (0 : Int) % 2147483549 * 27011 + 3) % 2147483579 = u at h1
      obtain ⟨u, rfl⟩ : ∃ u' : Nat, u = (u' : Int) := ⟨u.toNat, by omega⟩
      walk_at "d"
      refine rv_pow cpow14 ?_
      rw [pow14]
      walk_at "d"
      exact fun r nr => fin 0 u r (by decide) nr
    | cons n ns =>
      have hn := hown n
      walk_at "d"
      refine br_t (decide_eq_true (by simp <;> omega)) ?_
      walk_at "d"
      refine rv_ixF (m := n) atI_0 ?_
      walk_at "d"
      refine rv_mul (.inr ⟨by decide, by decide⟩) ?_
      walk_at "d"
      refine rv_mul (.inr ⟨by decide, by decide⟩) ?_
      walk_at "d"
      have h1 := Int.emod_nonneg ((v : Int) * 39119 + n % 2147483549 * 27011 + 3) (show (2147483579 : Int) ≠ 0 by omega)
      generalize ((v : Int) * 39119 + n % 2147483549 * 27011 + 3) % 2147483579 = u at h1
      obtain ⟨u, rfl⟩ : ∃ u' : Nat, u = (u' : Int) := ⟨u.toNat, by omega⟩
      refine ⟨fun e => ⟨fun _ => ?_, fun e => (by cases e)⟩, fun e => ?_⟩
      · walk_at "d"
        exact fun r nr => fin _ u r (by split <;> omega) nr
      walk_at "d"
      refine rv_pow cpow14 ?_
      rw [pow14]
      walk_at "d"
      refine ⟨fun e => ?_, fun e => ?_⟩
      · walk_at "d"
        exact fun r nr => fin _ u r (by split <;> omega) nr
      · walk_at "d"
        exact fun r nr => fin 0 u r (by decide) nr
end
end FS
set_option maxHeartbeats 4000000
namespace FS
open PySem PySem.Spec PyProof.Rows L2
local macro_rules | `(tactic| walk_at "t") => `(tactic| exact use_hole (by assumption))
local macro_rules | `(tactic| walk_at "t") => `(tactic| exact use_at (by assumption))
local macro_rules | `(tactic| walk_at "t") => `(tactic| exact use_name (by assumption))
local macro_rules | `(tactic| walk_at "t") => `(tactic| exact use_num (by assumption))
local macro_rules | `(tactic| walk_at "t") => `(tactic| exact leaf_leaves (by assumption))
local macro_rules | `(tactic| walk_at "t") => `(tactic| exact use_leaves (by assumption))
local macro_rules | `(tactic| walk_at "t") => `(tactic| assumption)
local macro_rules | `(tactic| walk_at "t") => `(tactic| decide +kernel)
local macro_rules | `(tactic| walk_at "t") => `(tactic| rfl)
local macro_rules | `(tactic| walk_at "d1") => `(tactic| (with_reducible refine ⟨_, _, _, rfl, ?_⟩))
local macro_rules | `(tactic| walk_at "d1") => `(tactic| (with_reducible refine ⟨_, _, rfl, ?_⟩))
local macro_rules | `(tactic| walk_at "d1") => `(tactic| ((with_reducible refine rv_fdiv ?h1 ?_); (case h1 => exact ⟨by decide, by decide⟩)))
local macro_rules | `(tactic| walk_at "d1") => `(tactic| ((with_reducible refine rv_mod ?h1 ?_); (case h1 => (show (0 : Int) < _; decide))))
local macro_rules | `(tactic| walk_at "d1") => `(tactic| (with_reducible refine we_call (dxs := [.int 0]) (fun H => .cons (.int 0) .nil) ?_))
local macro_rules | `(tactic| walk_at "d1") => `(tactic| ((with_reducible refine' we_c ?h1 ?_); (case h1 => assumption)))
local macro_rules | `(tactic| walk_at "d1") => `(tactic| (with_reducible refine wt_yes ?_))
local macro_rules | `(tactic| walk_at "d1") => `(tactic| (with_reducible refine wg_name ?_))
local macro_rules | `(tactic| walk_at "d1") => `(tactic| (with_reducible refine rv_ix3 ?_))
local macro_rules | `(tactic| walk_at "d1") => `(tactic| (with_reducible refine rv_ix2 ?_))
local macro_rules | `(tactic| walk_at "d1") => `(tactic| (with_reducible refine rv_notN ?_))
local macro_rules | `(tactic| walk_at "d1") => `(tactic| (with_reducible refine rv_isN ?_))
local macro_rules | `(tactic| walk_at "d1") => `(tactic| (with_reducible refine rv_neS ?_))
local macro_rules | `(tactic| walk_at "d1") => `(tactic| (with_reducible refine rv_ge ?_))
local macro_rules | `(tactic| walk_at "d1") => `(tactic| (with_reducible refine rv_gt ?_))
local macro_rules | `(tactic| walk_at "d1") => `(tactic| (with_reducible refine rv_le ?_))
local macro_rules | `(tactic| walk_at "d1") => `(tactic| (with_reducible refine rv_sub ?_))
local macro_rules | `(tactic| walk_at "d1") => `(tactic| (with_reducible refine wo_some ?_))
local macro_rules | `(tactic| walk_at "d1") => `(tactic| (with_reducible refine wo_none ?_))
local macro_rules | `(tactic| walk_at "d1") => `(tactic| (with_reducible refine we_then ?_))
local macro_rules | `(tactic| walk_at "d1") => `(tactic| (with_reducible refine we_un ?_))
local macro_rules | `(tactic| walk_at "d1") => `(tactic| (with_reducible refine we_chain ?_))
local macro_rules | `(tactic| walk_at "d1") => `(tactic| (with_reducible refine we_if ?_))
local macro_rules | `(tactic| walk_at "d1") => `(tactic| (with_reducible refine we_not ?_))
local macro_rules | `(tactic| walk_at "d1") => `(tactic| (with_reducible refine we_or ?_))
local macro_rules | `(tactic| walk_at "d1") => `(tactic| (with_reducible refine we_and ?_))
local macro_rules | `(tactic| walk_at "d1") => `(tactic| (with_reducible refine wt_not ?_))
local macro_rules | `(tactic| walk_at "d1") => `(tactic| (with_reducible refine wt_B ?_))
local macro_rules | `(tactic| walk_at "d1") => `(tactic| (with_reducible refine we_slT ?_))
local macro_rules | `(tactic| walk_at "d1") => `(tactic| (with_reducible refine we_lst ?_))
local macro_rules | `(tactic| walk_at "d1") => `(tactic| (with_reducible refine we_ty ?_))
local macro_rules | `(tactic| walk_at "d1") => `(tactic| (with_reducible refine we_non ?_))
local macro_rules | `(tactic| walk_at "d1") => `(tactic| (with_reducible refine we_bl ?_))
local macro_rules | `(tactic| walk_at "d1") => `(tactic| (with_reducible refine ws_asg ?_))
local macro_rules | `(tactic| walk_at "d1") => `(tactic| (with_reducible refine ws_par3 ?_))
local macro_rules | `(tactic| walk_at "d1") => `(tactic| (with_reducible refine ws_par ?_))
local macro_rules | `(tactic| walk_at "d1") => `(tactic| (with_reducible refine ws_drop ?_))
local macro_rules | `(tactic| walk_at "d1") => `(tactic| (with_reducible refine ru_neg ?_))
local macro_rules | `(tactic| walk_at "d1") => `(tactic| (with_reducible refine rl_isi_bb ?_))
local macro_rules | `(tactic| walk_at "d1") => `(tactic| (with_reducible refine rl_isi_bt ?_))
local macro_rules | `(tactic| walk_at "d1") => `(tactic| (with_reducible refine rl_isi_sb ?_))
local macro_rules | `(tactic| walk_at "d1") => `(tactic| (with_reducible refine rl_isi_st ?_))
local macro_rules | `(tactic| walk_at "d1") => `(tactic| (with_reducible refine rl_isi_is ?_))
local macro_rules | `(tactic| walk_at "d1") => `(tactic| (with_reducible refine rl_isi_it ?_))
local macro_rules | `(tactic| walk_at "d1") => `(tactic| (with_reducible refine rl_isi_ib ?_))
local macro_rules | `(tactic| walk_at "d1") => `(tactic| (with_reducible refine rl_isi_ii ?_))
local macro_rules | `(tactic| walk_at "d1") => `(tactic| (with_reducible refine rl_isi_ss ?_))
local macro_rules | `(tactic| walk_at "d1") => `(tactic| (with_reducible refine rl_isi_tt ?_))
local macro_rules | `(tactic| walk_at "d1") => `(tactic| (with_reducible refine rl_abs ?_))
local macro_rules | `(tactic| walk_at "d1") => `(tactic| (with_reducible refine rl_int ?_))
local macro_rules | `(tactic| walk_at "d1") => `(tactic| (with_reducible refine wt_or ?_))
local macro_rules | `(tactic| walk_at "d1") => `(tactic| (with_reducible refine rv_lt ?_))
local macro_rules | `(tactic| walk_at "d1") => `(tactic| (with_reducible refine rv_add ?_))
local macro_rules | `(tactic| walk_at "d1") => `(tactic| (with_reducible refine we_cb ?_))
local macro_rules | `(tactic| walk_at "d1") => `(tactic| (with_reducible refine ws_set ?_))
local macro_rules | `(tactic| walk_at "d1") => `(tactic| (with_reducible refine rv_ix1 ?_))
local macro_rules | `(tactic| walk_at "d1") => `(tactic| (with_reducible refine wt_and ?_))
local macro_rules | `(tactic| walk_at "d1") => `(tactic| (with_reducible refine we_call0 ?_))
local macro_rules | `(tactic| walk_at "d1") => `(tactic| ((with_reducible refine br_t ?h1 ?_); (case h1 => walk_at "t")))
local macro_rules | `(tactic| walk_at "d1") => `(tactic| ((with_reducible refine rv_inT ?a1 ?a2 ?_); (case a1 => rfl); (case a2 => first | rfl | decide +kernel)))
local macro_rules | `(tactic| walk_at "d1") => `(tactic| ((with_reducible refine len_and ?h1 ?_); (case h1 => first | decide | (simp; done) | (simp; omega))))
local macro_rules | `(tactic| walk_at "d1") => `(tactic| ((with_reducible refine br_f ?h1 ?_); (case h1 => walk_at "t")))
local macro_rules | `(tactic| walk_at "d1") => `(tactic| (with_reducible refine ⟨_, rfl, ?_⟩))
local macro_rules | `(tactic| walk_at "d1") => `(tactic| (with_reducible refine ws_ret ?_))
local macro_rules | `(tactic| walk_at "d1") => `(tactic| (with_reducible refine rv_eqS ?_))
local macro_rules | `(tactic| walk_at "d1") => `(tactic| (with_reducible refine we_tup ?_))
local macro_rules | `(tactic| walk_at "d1") => `(tactic| (with_reducible refine rv_ix0 ?_))
local macro_rules | `(tactic| walk_at "d1") => `(tactic| (with_reducible refine ws_next ?_))
local macro_rules | `(tactic| walk_at "d1") => `(tactic| (with_reducible refine ws_if ?_))
local macro_rules | `(tactic| walk_at "d1") => `(tactic| (with_reducible refine wt_test ?_))
local macro_rules | `(tactic| walk_at "d1") => `(tactic| (with_reducible refine ws_seq ?_))
local macro_rules | `(tactic| walk_at "d1") => `(tactic| (with_reducible refine wa_nil ?_))
local macro_rules | `(tactic| walk_at "d1") => `(tactic| (with_reducible refine we_int ?_))
local macro_rules | `(tactic| walk_at "d1") => `(tactic| (with_reducible refine we_str ?_))
local macro_rules | `(tactic| walk_at "d1") => `(tactic| (with_reducible refine we_op ?_))
local macro_rules | `(tactic| walk_at "d1") => `(tactic| ((with_reducible refine' we_var ?h1 ?_); (case h1 => exact rfl)))
local macro_rules | `(tactic| walk_at "d1") => `(tactic| (with_reducible refine wa_cons ?_))
local macro_rules | `(tactic| walk_at "d") => `(tactic| repeat (walk_at "d1"))
theorem sc__law_again : FnScope ["_law_well_here", "_law_seen", "_law_many", "_law_names_here", "_law_back", "_law_further", "_law_branch", "_law_body"] ["_law_well_here", "_law_seen", "_law_many"] (defScope s__law_again) := ⟨rfl, rfl, rfl, by decide +kernel, rfl, by decide +kernel, by decide +kernel⟩
def kinds : List Str := ["number", "pair", "function", "box"]
def need (k : Str) : Nat := if k = "number" then 1 else 2
structure LeafOk (k : Str) (m d : Nat) (t : Tm) : Prop where
  wf : t.wf m d = true
  len : t.len ≤ 5
  dep : t.dep ≤ 3
  num : k = "number" → t.len ≤ 1 ∧ t.dep ≤ 1
def T_leaf (n : Nat) : SpD := fun xs M Q => ∃ (p : Addr) (k : Str) (ss : List Str) (m : Nat), xs = [.adr p, .str k, .tup (ss.map .str), .int (m : Int)] ∧ Well M p ∧ k ∈ kinds ∧ need k ≤ n ∧ ss.length + n ≤ 100000 ∧ m ≤ 100000 ∧ ∀ M' t, LeafOk k m ss.length t → MExB p M M' → Well M' p → Q t.enc M'
theorem well_up {M M' : Mm} {p : Addr} (h : Well M p) (e : MEx M M') : Well M' p := by
  obtain ⟨a, b, c, h⟩ := h
  exact ⟨a, b, c, e _ _ h⟩
theorem MEx.b {M M' : Mm} {p : Addr} (h : MEx M M') : MExB p M M' := fun a o _ e => h a o e
theorem mem_tup {zs : List Str} {d : Dv} (h : d ∈ zs.map Dv.str) : ∃ z ∈ zs, d = .str z := by
  obtain ⟨z, h1, h2⟩ := List.mem_map.mp h
  exact ⟨z, h1, h2.symm⟩
section
variable {P : Program} {w : World} {K : PySem.W.Frag} {mg : Str → Option Value} {base : Heap}
theorem step__law_leaf (G : Glb K mg) {n : Nat} (c__law_draw : Cal P w K mg base 1 "_law_draw" T_draw []) (c__law_pick : Cal P w K mg base 2 "_law_pick" T_pick []) (c_pickL : Cal P w K mg base 2 "_law_pick" T_pickL []) (c__law_number : Cal P w K mg base 2 "_law_number" T_num []) (c__law_leaf : Cal P w K mg base (n + 2) "_law_leaf" (T_leaf n) []) : Cal P w K mg base (n + 3) "_law_leaf" (T_leaf (n + 1)) [] := by
  refine cal_mk (ps := ["_law_well_here", "_law_kind", "_law_seen", "_law_many"]) G.d__law_leaf (fun _ _ _ _ _ _ us hl => match us, hl with | [_, _, _, _], _ => rfl) sc__law_leaf (fun xs M Q h => by obtain ⟨p, k, ss, m, rfl, _⟩ := h; rfl) fun f cdv A outer s H E hr => ⟨_, (pss_cons (ps_setLc (i := 4) (own := [("_law_k", 6)]) (by rfl) sc__law_leaf.nd rfl rfl (sw_true rfl rfl rfl (by decide +kernel)) (pi_range1 rfl G.b_range (pa_cons (pe_callB (call_lenK (K := K) rfl) (by rfl) G.b_len PySem.boot_len (pa_cons (pv 2) pa_nil)) pa_nil)) (blkOk_by (N := ["_law_well_here", "_law_kind", "_law_seen", "_law_many", "_law_some", "_law_word", "_law_k"]) (sc := defScope s__law_leaf) (by decide +kernel)) (fun _ _ _ _ _ => (pg_name (i := 6) sc__law_leaf.nd rfl (.inl rfl))) (fun _ _ _ _ _ => (pts_one (pt_cmpR op_eq (pe_ix (ix_tupK (K := K) rfl) (pv 2) (pv 6) (fun _ _ => rfl)) (pv 1) (nomark _)))) (fun _ _ _ _ _ => (pv 6)))
      (pss_cons (ps_if (PW.pt (pw_and (pt_cmpR (op_neDK (K := K) rfl hr.units) (pv 4) (pe_lst pa_nil) (nomark _)) (pw_and1 (pt_cmpR op_gt (pe_cal c__law_draw hr (by omega) ⟨rfl, rfl, rfl, rfl, rfl⟩ rfl (pa_cons (pv 0) (pa_cons pe_int pa_nil))) pe_int (nomark _)))))
        (pss_one (ps_ret (pe_tup (pa_cons pe_str (pa_cons (pe_cal c_pickL hr (by omega) ⟨rfl, rfl, rfl, rfl, rfl⟩ rfl (pa_cons (pv 0) (pa_cons (pv 4) pa_nil))) pa_nil)))))
        pss_nil)
      (pss_cons (ps_if (pt_cmpR op_eq (pv 1) pe_str (nomark _))
        (pss_one (ps_ret (pe_cal c__law_number hr (by omega) ⟨rfl, rfl, rfl, rfl, rfl⟩ rfl (pa_cons (pv 0) pa_nil))))
        pss_nil)
      (pss_cons (ps_if (pt_cmpR op_eq (pv 1) pe_str (nomark _))
        (pss_one (ps_ret (pe_tup (pa_cons pe_str (pa_cons (pe_cal c__law_leaf hr (by omega) ⟨rfl, rfl, rfl, rfl, rfl⟩ rfl (pa_cons (pv 0) (pa_cons pe_str (pa_cons (pv 2) (pa_cons (pv 3) pa_nil))))) (pa_cons (pe_cal c__law_leaf hr (by omega) ⟨rfl, rfl, rfl, rfl, rfl⟩ rfl (pa_cons (pv 0) (pa_cons pe_str (pa_cons (pv 2) (pa_cons (pv 3) pa_nil))))) pa_nil))))))
        pss_nil)
      (pss_cons (ps_if (pt_cmpR op_eq (pv 1) pe_str (nomark _))
        (pss_cons (ps_set (i := 5) sc__law_leaf.nd rfl (.inl rfl) (pe_cal c__law_pick hr (by omega) ⟨rfl, rfl, rfl, rfl, rfl⟩ rfl (pa_cons (pv 0) (pa_cons (pe_tup (pa_cons pe_str (pa_cons pe_str (pa_cons pe_str (pa_cons pe_str (pa_cons pe_str (pa_cons pe_str pa_nil))))))) pa_nil))))
        (pss_one (ps_ret (pe_tup (pa_cons pe_str (pa_cons (pe_tup (pa_cons (pv 5) (pa_cons (pe_tup (pa_cons pe_str (pa_cons pe_int pa_nil))) (pa_cons (pe_cal c__law_leaf hr (by omega) ⟨rfl, rfl, rfl, rfl, rfl⟩ rfl (pa_cons (pv 0) (pa_cons pe_str (pa_cons (pe_op (op_catK (K := K) rfl) (pe_tup (pa_cons pe_str pa_nil)) (pv 2)) (pa_cons (pv 3) pa_nil))))) pa_nil)))) pa_nil))))))
        pss_nil)
      (pss_cons (ps_if (PW.pt (pw_and (pt_cmpR op_gt (pv 3) pe_int (nomark _)) (pw_and1 (pt_cmpR op_eq (pe_cal c__law_draw hr (by omega) ⟨rfl, rfl, rfl, rfl, rfl⟩ rfl (pa_cons (pv 0) (pa_cons pe_int pa_nil))) pe_int (nomark _)))))
        (pss_one (ps_ret (pe_tup (pa_cons pe_str (pa_cons (pe_cal c__law_draw hr (by omega) ⟨rfl, rfl, rfl, rfl, rfl⟩ rfl (pa_cons (pv 0) (pa_cons (pv 3) pa_nil))) pa_nil)))))
        pss_nil)
      (pss_one (ps_ret (pe_tup (pa_cons pe_str (pa_cons (pe_cal c__law_leaf hr (by omega) ⟨rfl, rfl, rfl, rfl, rfl⟩ rfl (pa_cons (pv 0) (pa_cons pe_str (pa_cons (pv 2) (pa_cons (pv 3) pa_nil))))) pa_nil))))))))))), fun xs M Q h => ?_⟩
  obtain ⟨p, k, ss, m, rfl, hp, hk, hn, hs, hm, q⟩ := h
  refine ws_seq (ws_set ?_)
  refine we_lcRF ss.length (fun j => .int (j : Int)) (fun j => decide (ss[j]? = some k)) rfl ?_ (by omega) ?_ ?_
  · walk_at "d"
    refine rl_lenT ?_
    walk_at "d"
    exact ⟨by rw [List.length_map], .refl⟩
  · intro j hj M2 h2
    walk_at "d"
    have ej : ss[j]? = some ss[j] := List.getElem?_eq_getElem hj
    refine rv_ixT (d := .str ss[j]) (atI_nat (by rw [List.getElem?_map, ej]; rfl)) ?_
    walk_at "d"
    refine ⟨.refl, ?_, fun _ => ?_⟩
    · rw [ej]
      exact decide_eq_decide.mpr ⟨fun h => by rw [h], fun h => Option.some.inj h⟩
    · walk_at "d"
      exact ⟨.refl, rfl⟩
  intro r M2 nr h2 hr2
  obtain ⟨ks, hks⟩ : ∃ ks, ks = (List.range ss.length).filter fun j => decide (ss[j]? = some k) := ⟨_, rfl⟩
  rw [← hks] at hr2
  have hkm : ∀ j ∈ ks, j < ss.length := fun j hj => by
    rw [hks] at hj
    exact List.mem_range.mp (List.mem_filter.mp hj).1
  have hkl : ks.length ≤ 1000000 := by
    have h1 := List.length_filter_le (fun j => decide (ss[j]? = some k)) (List.range ss.length)
    rw [← hks, List.length_range] at h1
    omega
  have hw2 := well_up hp h2
  have hrp : r ≠ p := fun e => by
    obtain ⟨a, b, c, hw⟩ := hp
    rw [e, hw] at nr
    cases nr
  have hr3 : M2 r = some (.lst ((ks.map fun j => ((j : Nat) : Int)).map .int)) := by rw [hr2, List.map_map]; rfl
  have mx0 : MExB p M M2 := h2.b
  refine ws_seq (ws_if (WT.mono (Q := fun b M' => MExB p M2 M' ∧ Well M' p ∧ (b = true → ks ≠ [])) (wt_and (wt_test (we_op (we_var rfl (we_lst ?_))))) ?_))
  · walk_at "d"
    intro v nv
    have h3 : MEx M2 (mupd M2 v (.lst [])) := .new nv
    have hv : mupd M2 v (.lst []) v = some (.lst []) := mupd_same
    generalize mupd M2 v (.lst []) = M3 at h3 hv
    refine rv_neL0 (h3 _ _ hr3) hv ?_
    walk_at "d"
    refine ⟨fun e => ?_, fun e => ⟨h3.b, well_up hw2 h3, fun z => by cases z⟩⟩
    walk_at "d"
    refine ⟨p, 4, rfl, well_up hw2 h3, by decide, by decide, fun M4 x _ h4 w4 => ?_⟩
    walk_at "d"
    refine ⟨MExB.trans h3.b h4, w4, fun _ z => ?_⟩
    rw [z] at e
    cases e
  rintro b M3 ⟨h3, w3, hne⟩
  have hr4 := h3 _ _ hrp hr3
  have mx3 : MExB p M M3 := mx0.trans h3
  cases b with
  | true =>
    refine br_t rfl ?_
    walk_at "d"
    refine ⟨p, r, _, rfl, w3, hrp, hr4, fun z => hne rfl (by
      cases ks with
      | nil => rfl
      | cons a l => cases z), by simp only [List.length_map]; omega, fun M4 d hd h4 w4 => ?_⟩
    walk_at "d"
    rw [List.map_map] at hd
    obtain ⟨x, hx, rfl⟩ := List.mem_map.mp hd
    have hxl := hkm x hx
    exact q M4 (.name x) ⟨decide_eq_true hxl, by simp [Tm.len], by simp [Tm.dep], fun _ => ⟨Nat.le_refl _, Nat.le_refl _⟩⟩ (mx3.trans h4) w4
  | false =>
    refine br_f rfl ?_
    walk_at "d"
    have hnum : k = "number" ∨ (k ≠ "number" ∧ 1 ≤ n) := by
      by_cases e : k = "number"
      · exact .inl e
      · refine .inr ⟨e, ?_⟩
        unfold need at hn
        rw [if_neg e] at hn
        omega
    have hk1 : ("number" : Str) ∈ kinds := by decide +kernel
    have hn1 : need "number" = 1 := by decide +kernel
    have e1 : decide (("pair" : Str) = "number") = false := by decide +kernel
    rcases hnum with rfl | ⟨hkn, hn2⟩
    · walk_at "d"
      refine ⟨p, rfl, w3, fun M4 x hx h4 w4 => ?_⟩
      exact q M4 (.num x) ⟨hx, by simp [Tm.len], by simp [Tm.dep], fun _ => ⟨Nat.le_refl _, Nat.le_refl _⟩⟩ (mx3.trans h4) w4
    refine br_f (decide_eq_false hkn) ?_
    walk_at "d"
    refine ⟨fun e => ?_, fun e => ?_⟩
    · walk_at "d"
      refine ⟨p, "number", ss, m, rfl, w3, hk1, by omega, by omega, hm, fun M4 a ha h4 w4 => ?_⟩
      walk_at "d"
      refine ⟨p, "number", ss, m, rfl, w4, hk1, by omega, by omega, hm, fun M5 b hb h5 w5 => ?_⟩
      walk_at "d"
      refine q M5 (.u2 .pair a b) ⟨?_, ?_, ?_, fun z => absurd z hkn⟩ ((mx3.trans h4).trans h5) w5
      · show (_ && _) = true
        rw [ha.wf, hb.wf]
        rfl
      · have := (ha.num rfl).1
        have := (hb.num rfl).1
        simp only [Tm.len]
        omega
      · have := (ha.num rfl).2
        have := (hb.num rfl).2
        simp only [Tm.dep]
        omega
    walk_at "d"
    refine ⟨fun e => ?_, fun e => ?_⟩
    · walk_at "d"
      refine ⟨p, _, rfl, w3, by simp, by simp, fun M4 d hd h4 w4 => ?_⟩
      obtain ⟨w2, rfl⟩ : ∃ w2 : W2, d = .str w2.s := by
        have hd' : d ∈ [Dv.str W2.plus.s, .str W2.minus.s, .str W2.plus.s, .str W2.times.s, .str W2.minus.s, .str W2.pair.s] := hd
        simp only [List.mem_cons, List.not_mem_nil, or_false] at hd'
        rcases hd' with h | h | h | h | h | h <;> exact ⟨_, h⟩
      walk_at "d"
      refine rv_catT (by simp; omega) ?_
      walk_at "d"
      refine ⟨p, "number", "number" :: ss, m, rfl, w4, hk1, by omega, by simp; omega, hm, fun M5 a ha h5 w5 => ?_⟩
      walk_at "d"
      refine q M5 (.u1 .fn (.u2 w2 (.name 0) a)) ⟨?_, ?_, ?_, fun z => absurd z hkn⟩ ((mx3.trans h4).trans h5) w5
      · show (decide (0 < ss.length + 1) && a.wf m (ss.length + 1)) = true
        have h6 : a.wf m (ss.length + 1) = true := ha.wf
        rw [h6, decide_eq_true (by omega)]
        rfl
      · have := (ha.num rfl).1
        simp only [Tm.len, W1.b]
        omega
      · have := (ha.num rfl).2
        simp only [Tm.dep]
        omega
    refine ws_next (ws_seq (ws_if (WT.mono (Q := fun b M' => MExB p M3 M' ∧ Well M' p ∧ (b = true → 0 < m)) (wt_and ?_) ?_)))
    · walk_at "d"
      refine ⟨fun e => ?_, fun e => ⟨.refl, w3, fun z => by cases z⟩⟩
      have hm0 := of_decide_eq_true e
      walk_at "d"
      refine ⟨p, 2, rfl, w3, by decide, by decide, fun M4 x _ h4 w4 => ?_⟩
      walk_at "d"
      refine rv_eqI ?_
      walk_at "d"
      exact ⟨h4, w4, fun _ => by omega⟩
    rintro b M4 ⟨h4, w4, hm0⟩
    cases b with
    | true =>
      have hm1 := hm0 rfl
      refine br_t rfl ?_
      walk_at "d"
      refine ⟨p, m, rfl, w4, hm1, by omega, fun M5 x hx h5 w5 => ?_⟩
      walk_at "d"
      exact q M5 (.at x) ⟨decide_eq_true hx, by simp [Tm.len], by simp [Tm.dep], fun z => absurd z hkn⟩ ((mx3.trans h4).trans h5) w5
    | false =>
      refine br_f rfl ?_
      walk_at "d"
      refine ⟨p, "number", ss, m, rfl, w4, hk1, by omega, by omega, hm, fun M5 a ha h5 w5 => ?_⟩
      walk_at "d"
      refine q M5 (.u1 .box a) ⟨ha.wf, ?_, ?_, fun z => absurd z hkn⟩ ((mx3.trans h4).trans h5) w5
      · have := (ha.num rfl).1
        simp only [Tm.len, W1.b]
        omega
      · have := (ha.num rfl).2
        simp only [Tm.dep]
        omega
end
end FS
set_option maxHeartbeats 4000000
namespace FS
open PySem PySem.Spec PyProof.Rows L2
local macro_rules | `(tactic| walk_at "t") => `(tactic| exact use_hole (by assumption))
local macro_rules | `(tactic| walk_at "t") => `(tactic| exact use_at (by assumption))
local macro_rules | `(tactic| walk_at "t") => `(tactic| exact use_name (by assumption))
local macro_rules | `(tactic| walk_at "t") => `(tactic| exact use_num (by assumption))
local macro_rules | `(tactic| walk_at "t") => `(tactic| exact leaf_leaves (by assumption))
local macro_rules | `(tactic| walk_at "t") => `(tactic| exact use_leaves (by assumption))
local macro_rules | `(tactic| walk_at "t") => `(tactic| assumption)
local macro_rules | `(tactic| walk_at "t") => `(tactic| decide +kernel)
local macro_rules | `(tactic| walk_at "t") => `(tactic| rfl)
local macro_rules | `(tactic| walk_at "d1") => `(tactic| (with_reducible refine ⟨_, _, _, rfl, ?_⟩))
local macro_rules | `(tactic| walk_at "d1") => `(tactic| (with_reducible refine ⟨_, _, rfl, ?_⟩))
local macro_rules | `(tactic| walk_at "d1") => `(tactic| ((with_reducible refine rv_fdiv ?h1 ?_); (case h1 => exact ⟨by decide, by decide⟩)))
local macro_rules | `(tactic| walk_at "d1") => `(tactic| ((with_reducible refine rv_mod ?h1 ?_); (case h1 => (show (0 : Int) < _; decide))))
local macro_rules | `(tactic| walk_at "d1") => `(tactic| (with_reducible refine we_call (dxs := [.int 0]) (fun H => .cons (.int 0) .nil) ?_))
local macro_rules | `(tactic| walk_at "d1") => `(tactic| ((with_reducible refine' we_c ?h1 ?_); (case h1 => assumption)))
local macro_rules | `(tactic| walk_at "d1") => `(tactic| (with_reducible refine wt_yes ?_))
local macro_rules | `(tactic| walk_at "d1") => `(tactic| (with_reducible refine wg_name ?_))
local macro_rules | `(tactic| walk_at "d1") => `(tactic| (with_reducible refine rv_ix3 ?_))
local macro_rules | `(tactic| walk_at "d1") => `(tactic| (with_reducible refine rv_ix2 ?_))
local macro_rules | `(tactic| walk_at "d1") => `(tactic| (with_reducible refine rv_notN ?_))
local macro_rules | `(tactic| walk_at "d1") => `(tactic| (with_reducible refine rv_isN ?_))
local macro_rules | `(tactic| walk_at "d1") => `(tactic| (with_reducible refine rv_neS ?_))
local macro_rules | `(tactic| walk_at "d1") => `(tactic| (with_reducible refine rv_ge ?_))
local macro_rules | `(tactic| walk_at "d1") => `(tactic| (with_reducible refine rv_gt ?_))
local macro_rules | `(tactic| walk_at "d1") => `(tactic| (with_reducible refine rv_le ?_))
local macro_rules | `(tactic| walk_at "d1") => `(tactic| (with_reducible refine rv_sub ?_))
local macro_rules | `(tactic| walk_at "d1") => `(tactic| (with_reducible refine wo_some ?_))
local macro_rules | `(tactic| walk_at "d1") => `(tactic| (with_reducible refine wo_none ?_))
local macro_rules | `(tactic| walk_at "d1") => `(tactic| (with_reducible refine we_then ?_))
local macro_rules | `(tactic| walk_at "d1") => `(tactic| (with_reducible refine we_un ?_))
local macro_rules | `(tactic| walk_at "d1") => `(tactic| (with_reducible refine we_chain ?_))
local macro_rules | `(tactic| walk_at "d1") => `(tactic| (with_reducible refine we_if ?_))
local macro_rules | `(tactic| walk_at "d1") => `(tactic| (with_reducible refine we_not ?_))
local macro_rules | `(tactic| walk_at "d1") => `(tactic| (with_reducible refine we_or ?_))
local macro_rules | `(tactic| walk_at "d1") => `(tactic| (with_reducible refine we_and ?_))
local macro_rules | `(tactic| walk_at "d1") => `(tactic| (with_reducible refine wt_not ?_))
local macro_rules | `(tactic| walk_at "d1") => `(tactic| (with_reducible refine wt_B ?_))
local macro_rules | `(tactic| walk_at "d1") => `(tactic| (with_reducible refine we_slT ?_))
local macro_rules | `(tactic| walk_at "d1") => `(tactic| (with_reducible refine we_lst ?_))
local macro_rules | `(tactic| walk_at "d1") => `(tactic| (with_reducible refine we_ty ?_))
local macro_rules | `(tactic| walk_at "d1") => `(tactic| (with_reducible refine we_non ?_))
local macro_rules | `(tactic| walk_at "d1") => `(tactic| (with_reducible refine we_bl ?_))
local macro_rules | `(tactic| walk_at "d1") => `(tactic| (with_reducible refine ws_asg ?_))
local macro_rules | `(tactic| walk_at "d1") => `(tactic| (with_reducible refine ws_par3 ?_))
local macro_rules | `(tactic| walk_at "d1") => `(tactic| (with_reducible refine ws_par ?_))
local macro_rules | `(tactic| walk_at "d1") => `(tactic| (with_reducible refine ws_drop ?_))
local macro_rules | `(tactic| walk_at "d1") => `(tactic| (with_reducible refine ru_neg ?_))
local macro_rules | `(tactic| walk_at "d1") => `(tactic| (with_reducible refine rl_isi_bb ?_))
local macro_rules | `(tactic| walk_at "d1") => `(tactic| (with_reducible refine rl_isi_bt ?_))
local macro_rules | `(tactic| walk_at "d1") => `(tactic| (with_reducible refine rl_isi_sb ?_))
local macro_rules | `(tactic| walk_at "d1") => `(tactic| (with_reducible refine rl_isi_st ?_))
local macro_rules | `(tactic| walk_at "d1") => `(tactic| (with_reducible refine rl_isi_is ?_))
local macro_rules | `(tactic| walk_at "d1") => `(tactic| (with_reducible refine rl_isi_it ?_))
local macro_rules | `(tactic| walk_at "d1") => `(tactic| (with_reducible refine rl_isi_ib ?_))
local macro_rules | `(tactic| walk_at "d1") => `(tactic| (with_reducible refine rl_isi_ii ?_))
local macro_rules | `(tactic| walk_at "d1") => `(tactic| (with_reducible refine rl_isi_ss ?_))
local macro_rules | `(tactic| walk_at "d1") => `(tactic| (with_reducible refine rl_isi_tt ?_))
local macro_rules | `(tactic| walk_at "d1") => `(tactic| (with_reducible refine rl_abs ?_))
local macro_rules | `(tactic| walk_at "d1") => `(tactic| (with_reducible refine rl_int ?_))
local macro_rules | `(tactic| walk_at "d1") => `(tactic| (with_reducible refine wt_or ?_))
local macro_rules | `(tactic| walk_at "d1") => `(tactic| (with_reducible refine rv_lt ?_))
local macro_rules | `(tactic| walk_at "d1") => `(tactic| (with_reducible refine rv_add ?_))
local macro_rules | `(tactic| walk_at "d1") => `(tactic| (with_reducible refine we_cb ?_))
local macro_rules | `(tactic| walk_at "d1") => `(tactic| (with_reducible refine ws_set ?_))
local macro_rules | `(tactic| walk_at "d1") => `(tactic| (with_reducible refine rv_ix1 ?_))
local macro_rules | `(tactic| walk_at "d1") => `(tactic| (with_reducible refine wt_and ?_))
local macro_rules | `(tactic| walk_at "d1") => `(tactic| (with_reducible refine we_call0 ?_))
local macro_rules | `(tactic| walk_at "d1") => `(tactic| ((with_reducible refine br_t ?h1 ?_); (case h1 => walk_at "t")))
local macro_rules | `(tactic| walk_at "d1") => `(tactic| ((with_reducible refine rv_inT ?a1 ?a2 ?_); (case a1 => rfl); (case a2 => first | rfl | decide +kernel)))
local macro_rules | `(tactic| walk_at "d1") => `(tactic| ((with_reducible refine len_and ?h1 ?_); (case h1 => first | decide | (simp; done) | (simp; omega))))
local macro_rules | `(tactic| walk_at "d1") => `(tactic| ((with_reducible refine br_f ?h1 ?_); (case h1 => walk_at "t")))
local macro_rules | `(tactic| walk_at "d1") => `(tactic| (with_reducible refine ⟨_, rfl, ?_⟩))
local macro_rules | `(tactic| walk_at "d1") => `(tactic| (with_reducible refine ws_ret ?_))
local macro_rules | `(tactic| walk_at "d1") => `(tactic| (with_reducible refine rv_eqS ?_))
local macro_rules | `(tactic| walk_at "d1") => `(tactic| (with_reducible refine we_tup ?_))
local macro_rules | `(tactic| walk_at "d1") => `(tactic| (with_reducible refine rv_ix0 ?_))
local macro_rules | `(tactic| walk_at "d1") => `(tactic| (with_reducible refine ws_next ?_))
local macro_rules | `(tactic| walk_at "d1") => `(tactic| (with_reducible refine ws_if ?_))
local macro_rules | `(tactic| walk_at "d1") => `(tactic| (with_reducible refine wt_test ?_))
local macro_rules | `(tactic| walk_at "d1") => `(tactic| (with_reducible refine ws_seq ?_))
local macro_rules | `(tactic| walk_at "d1") => `(tactic| (with_reducible refine wa_nil ?_))
local macro_rules | `(tactic| walk_at "d1") => `(tactic| (with_reducible refine we_int ?_))
local macro_rules | `(tactic| walk_at "d1") => `(tactic| (with_reducible refine we_str ?_))
local macro_rules | `(tactic| walk_at "d1") => `(tactic| (with_reducible refine we_op ?_))
local macro_rules | `(tactic| walk_at "d1") => `(tactic| ((with_reducible refine' we_var ?h1 ?_); (case h1 => exact rfl)))
local macro_rules | `(tactic| walk_at "d1") => `(tactic| (with_reducible refine wa_cons ?_))
local macro_rules | `(tactic| walk_at "d") => `(tactic| repeat (walk_at "d1"))


theorem WS.mono {K : PySem.W.Frag} {ts : TS} {ds : EnvD} {M : Mm} {D D' : DEnds} (h : WS K ts ds M D') (n : ∀ ds M, D'.nx ds M → D.nx ds M) (r : ∀ d M, D'.rt d M → D.rt d M) (b : ∀ ds M, D'.bk ds M → D.bk ds M) (c : ∀ ds M, D'.ct ds M → D.ct ds M) : WS K ts ds M D :=
  ⟨fun σ H hE hM R k => h.run σ H hE hM R ⟨fun σ' H' ds' M' e hE' hM' q => k.nx σ' H' ds' M' e hE' hM' (n _ _ q), fun v H' d M' e m a q => k.rt v H' d M' e m a (r _ _ q), fun σ' H' ds' M' e hE' hM' q => k.bk σ' H' ds' M' e hE' hM' (b _ _ q), fun σ' H' ds' M' e hE' hM' q => k.ct σ' H' ds' M' e hE' hM' (c _ _ q)⟩⟩
/-- a statement that goes on, all ways told by one word -/
theorem ws_mid {K : PySem.W.Frag} {ts : TS} {ds : EnvD} {M : Mm} {D : DEnds} (Pv : EnvD → Mm → Prop) (h : WS K ts ds M { nx := Pv, rt := fun _ _ => False }) (n : ∀ ds M, Pv ds M → D.nx ds M) : WS K ts ds M D := WS.mono h n (fun _ _ z => z.elim) (fun _ _ z => z.elim) (fun _ _ z => z.elim)
theorem need_2 (k : Str) : need k ≤ 2 := by unfold need; split <;> decide
def T_again : SpD := fun xs M Q => ∃ (p : Addr) (ss : List Str) (m : Nat), xs = [.adr p, .tup (ss.map .str), .int (m : Int)] ∧ Well M p ∧ ss.length ≤ 90000 ∧ m ≤ 100000 ∧ ∀ M' (t : Tm), t.wf m ss.length = true → t.len ≤ 19 → t.dep ≤ 7 → t.isVal = true → MExB p M M' → Well M' p → Q t.enc M'
section
variable {P : Program} {w : World} {K : PySem.W.Frag} {mg : Str → Option Value} {base : Heap}
theorem cal__law_again (G : Glb K mg) (c__law_draw : Cal P w K mg base 1 "_law_draw" T_draw []) (c__law_pick : Cal P w K mg base 2 "_law_pick" T_pick []) (c__law_leaf : Cal P w K mg base 4 "_law_leaf" (T_leaf 2) []) : Cal P w K mg base 5 "_law_again" T_again [] := by
  refine cal_mk (ps := ["_law_well_here", "_law_seen", "_law_many"]) G.d__law_again (fun _ _ _ _ _ _ us hl => match us, hl with | [_, _, _], _ => rfl) sc__law_again (fun xs M Q h => by obtain ⟨p, ss, m, rfl, _⟩ := h; rfl) fun f cdv A outer s H E hr => ⟨_, (pss_cons (ps_set (i := 3) sc__law_again.nd rfl (.inl rfl) (pe_op (op_catK (K := K) rfl) (pe_tup (pa_cons pe_str (pa_cons pe_str pa_nil))) (pv 1)))
      (pss_cons (ps_set (i := 4) sc__law_again.nd rfl (.inl rfl) (pe_tup (pa_cons pe_str (pa_cons (pe_tup (pa_cons pe_str (pa_cons pe_int pa_nil))) (pa_cons (pe_tup (pa_cons pe_str (pa_cons (pe_tup (pa_cons pe_str (pa_cons pe_int pa_nil))) (pa_cons (pe_tup (pa_cons pe_str (pa_cons pe_int pa_nil))) pa_nil)))) pa_nil)))))
      (pss_cons (ps_set (i := 5) sc__law_again.nd rfl (.inl rfl) (pe_tup (pa_cons pe_str (pa_cons (pe_tup (pa_cons pe_str (pa_cons pe_int pa_nil))) (pa_cons (pe_tup (pa_cons pe_str (pa_cons (pe_tup (pa_cons pe_str (pa_cons pe_int pa_nil))) (pa_cons (pe_tup (pa_cons pe_str (pa_cons pe_int pa_nil))) pa_nil)))) pa_nil)))))
      (pss_cons (ps_set (i := 6) sc__law_again.nd rfl (.inl rfl) (pe_cal c__law_draw hr (by omega) ⟨rfl, rfl, rfl, rfl, rfl⟩ rfl (pa_cons (pv 0) (pa_cons pe_int pa_nil))))
      (pss_cons (ps_if (pt_cmpR op_eq (pv 6) pe_int (nomark _))
        (pss_one (ps_set (i := 7) sc__law_again.nd rfl (.inl rfl) (pv 4)))
        (pss_one (ps_if (pt_cmpR op_eq (pv 6) pe_int (nomark _))
          (pss_one (ps_set (i := 7) sc__law_again.nd rfl (.inl rfl) (pe_tup (pa_cons (pe_cal c__law_pick hr (by omega) ⟨rfl, rfl, rfl, rfl, rfl⟩ rfl (pa_cons (pv 0) (pa_cons (pe_tup (pa_cons pe_str (pa_cons pe_str (pa_cons pe_str pa_nil)))) pa_nil))) (pa_cons (pe_cal c__law_leaf hr (by omega) ⟨rfl, rfl, rfl, rfl, rfl⟩ rfl (pa_cons (pv 0) (pa_cons pe_str (pa_cons (pv 3) (pa_cons (pv 2) pa_nil))))) (pa_cons (pv 4) pa_nil))))))
          (pss_one (ps_if (pt_cmpR op_eq (pv 6) pe_int (nomark _))
            (pss_one (ps_set (i := 7) sc__law_again.nd rfl (.inl rfl) (pe_tup (pa_cons pe_str (pa_cons (pe_cal c__law_leaf hr (by omega) ⟨rfl, rfl, rfl, rfl, rfl⟩ rfl (pa_cons (pv 0) (pa_cons (pe_cal c__law_pick hr (by omega) ⟨rfl, rfl, rfl, rfl, rfl⟩ rfl (pa_cons (pv 0) (pa_cons (pe_tup (pa_cons pe_str (pa_cons pe_str (pa_cons pe_str pa_nil)))) pa_nil))) (pa_cons (pv 3) (pa_cons (pv 2) pa_nil))))) (pa_cons (pv 4) pa_nil))))))
            (pss_one (ps_if (pt_cmpR op_eq (pv 6) pe_int (nomark _))
              (pss_one (ps_set (i := 7) sc__law_again.nd rfl (.inl rfl) (pe_tup (pa_cons (pe_cal c__law_pick hr (by omega) ⟨rfl, rfl, rfl, rfl, rfl⟩ rfl (pa_cons (pv 0) (pa_cons (pe_tup (pa_cons pe_str (pa_cons pe_str pa_nil))) pa_nil))) (pa_cons (pe_tup (pa_cons pe_str (pa_cons (pv 4) (pa_cons (pe_tup (pa_cons pe_str (pa_cons (pe_tup (pa_cons pe_str (pa_cons pe_int pa_nil))) pa_nil))) pa_nil)))) pa_nil)))))
              (pss_one (ps_set (i := 7) sc__law_again.nd rfl (.inl rfl) (pe_tup (pa_cons pe_str (pa_cons (pe_tup (pa_cons pe_str (pa_cons (pv 5) pa_nil))) (pa_cons (pe_cal c__law_leaf hr (by omega) ⟨rfl, rfl, rfl, rfl, rfl⟩ rfl (pa_cons (pv 0) (pa_cons (pe_cal c__law_pick hr (by omega) ⟨rfl, rfl, rfl, rfl, rfl⟩ rfl (pa_cons (pv 0) (pa_cons (pe_tup (pa_cons pe_str (pa_cons pe_str (pa_cons pe_str pa_nil)))) pa_nil))) (pa_cons (pv 3) (pa_cons (pv 2) pa_nil))))) pa_nil)))))))))))))
      (pss_one (ps_ret (pe_tup (pa_cons pe_str (pa_cons (pe_tup (pa_cons pe_str (pa_cons (pe_tup (pa_cons pe_str (pa_cons pe_int pa_nil))) (pa_cons (pe_cal c__law_leaf hr (by omega) ⟨rfl, rfl, rfl, rfl, rfl⟩ rfl (pa_cons (pv 0) (pa_cons pe_str (pa_cons (pv 3) (pa_cons (pv 2) pa_nil))))) (pa_cons (pv 7) pa_nil))))) pa_nil)))))))))), fun xs M Q h => ?_⟩
  obtain ⟨p, ss, m, rfl, hp, hs, hm, q⟩ := h
  have hkn : ("number" : Str) ∈ kinds := by decide +kernel
  walk_at "d"
  refine rv_catT (by simp; omega) ?_
  walk_at "d"
  refine ⟨p, 6, rfl, hp, by decide, by decide, fun M1 x _ h1 w1 => ?_⟩
  refine ws_seq (ws_mid (fun ds' M' => ∃ b : Tm, ds' = [some (.adr p), some (.tup (ss.map .str)), some (.int (m : Int)), some (.tup ((("number" : Str) :: "function" :: ss).map Dv.str)), some (Tm.u2 .call (.name 1) (.u2 .minus (.name 0) (.num 1))).enc, some (Tm.u2 .call (.name 2) (.u2 .minus (.name 1) (.num 1))).enc, some (.int (x : Int)), some b.enc] ∧ b.wf m (ss.length + 2) = true ∧ b.len ≤ 13 ∧ b.dep ≤ 5 ∧ MExB p M M' ∧ Well M' p) ?_ ?_)
  · have hback : ∀ d, 2 ≤ d → (Tm.u2 .call (.name 1) (.u2 .minus (.name 0) (.num 1))).wf m d = true := fun d hd => by
      simp [Tm.wf]
      omega
    have hbl : (Tm.u2 .call (.name 1) (.u2 .minus (.name 0) (.num 1))).len = 5 := rfl
    have hbd : (Tm.u2 .call (.name 1) (.u2 .minus (.name 0) (.num 1))).dep = 3 := rfl
    have hsl : (("number" : Str) :: "function" :: ss).length = ss.length + 2 := rfl
    walk_at "d"
    refine rv_eqI ?_
    walk_at "d"
    refine ⟨fun _ => ?_, fun _ => ?_⟩
    · walk_at "d"
      exact ⟨.u2 .call (.name 1) (.u2 .minus (.name 0) (.num 1)), rfl, hback _ (by omega), by decide, by decide, h1, w1⟩
    walk_at "d"
    refine rv_eqI ?_
    walk_at "d"
    refine ⟨fun _ => ?_, fun _ => ?_⟩
    · walk_at "d"
      refine ⟨p, _, rfl, w1, by simp, by simp, fun M2 d hd h2 w2 => ?_⟩
      obtain ⟨w2', rfl⟩ : ∃ w2 : W2, d = .str w2.s := by
        have hd' : d ∈ [Dv.str W2.plus.s, .str W2.minus.s, .str W2.times.s] := hd
        simp only [List.mem_cons, List.not_mem_nil, or_false] at hd'
        rcases hd' with h | h | h <;> exact ⟨_, h⟩
      walk_at "d"
      refine ⟨p, "number", "number" :: "function" :: ss, m, rfl, w2, hkn, need_2 _, by simp; omega, hm, fun M3 a ha h3 w3 => ?_⟩
      walk_at "d"
      refine ⟨.u2 w2' a (.u2 .call (.name 1) (.u2 .minus (.name 0) (.num 1))), rfl, ?_, ?_, ?_, (h1.trans h2).trans h3, w3⟩
      · show (a.wf m (ss.length + 2) && _) = true
        rw [show a.wf m (ss.length + 2) = true from ha.wf]
        exact hback (ss.length + 2) (by omega)
      · have := (ha.num rfl).1
        simp only [Tm.len] at hbl ⊢
        omega
      · have := (ha.num rfl).2
        show 1 + max a.dep _ ≤ 5
        rw [hbd]
        omega
    walk_at "d"
    refine rv_eqI ?_
    walk_at "d"
    refine ⟨fun _ => ?_, fun _ => ?_⟩
    · walk_at "d"
      refine ⟨p, _, rfl, w1, by simp, by simp, fun M2 d hd h2 w2 => ?_⟩
      obtain ⟨kd, hkd, rfl⟩ : ∃ kd : Str, kd ∈ kinds ∧ d = .str kd := by
        have hd' : d ∈ [Dv.str "number", .str "box", .str "function"] := hd
        simp only [List.mem_cons, List.not_mem_nil, or_false] at hd'
        rcases hd' with h | h | h
        · exact ⟨_, by decide +kernel, h⟩
        · exact ⟨_, by decide +kernel, h⟩
        · exact ⟨_, by decide +kernel, h⟩
      walk_at "d"
      refine ⟨p, kd, "number" :: "function" :: ss, m, rfl, w2, hkd, need_2 _, by simp; omega, hm, fun M3 a ha h3 w3 => ?_⟩
      walk_at "d"
      refine ⟨.u2 .pair a (.u2 .call (.name 1) (.u2 .minus (.name 0) (.num 1))), rfl, ?_, ?_, ?_, (h1.trans h2).trans h3, w3⟩
      · show (a.wf m (ss.length + 2) && _) = true
        rw [show a.wf m (ss.length + 2) = true from ha.wf]
        exact hback (ss.length + 2) (by omega)
      · have := ha.len
        simp only [Tm.len] at hbl ⊢
        omega
      · have := ha.dep
        show 1 + max a.dep _ ≤ 5
        rw [hbd]
        omega
    walk_at "d"
    refine rv_eqI ?_
    walk_at "d"
    refine ⟨fun _ => ?_, fun _ => ?_⟩
    · walk_at "d"
      refine ⟨p, _, rfl, w1, by simp, by simp, fun M2 d hd h2 w2 => ?_⟩
      obtain ⟨w1', hwb, rfl⟩ : ∃ w1 : W1, w1.b = 0 ∧ d = .str w1.s := by
        have hd' : d ∈ [Dv.str W1.first.s, .str W1.second.s] := hd
        simp only [List.mem_cons, List.not_mem_nil, or_false] at hd'
        rcases hd' with h | h
        · exact ⟨.first, rfl, h⟩
        · exact ⟨.second, rfl, h⟩
      walk_at "d"
      refine ⟨.u1 w1' (.u2 .pair (.u2 .call (.name 1) (.u2 .minus (.name 0) (.num 1))) (.u1 .say (.name 0))), rfl, ?_, ?_, ?_, h1.trans h2, w2⟩
      · show (_ && _) = true
        rw [hwb]
        have h6 := hback (ss.length + 2 + 0) (by omega)
        rw [h6]
        simp [Tm.wf, W1.b]
      · show 1 + w1'.b + (1 + 5 + 2) ≤ 13
        omega
      · show 1 + (1 + max 3 2) ≤ 5
        omega
    walk_at "d"
    refine ⟨p, _, rfl, w1, by simp, by simp, fun M2 d hd h2 w2 => ?_⟩
    obtain ⟨kd, hkd, rfl⟩ : ∃ kd : Str, kd ∈ kinds ∧ d = .str kd := by
      have hd' : d ∈ [Dv.str "pair", .str "function", .str "box"] := hd
      simp only [List.mem_cons, List.not_mem_nil, or_false] at hd'
      rcases hd' with h | h | h
      · exact ⟨_, by decide +kernel, h⟩
      · exact ⟨_, by decide +kernel, h⟩
      · exact ⟨_, by decide +kernel, h⟩
    walk_at "d"
    refine ⟨p, kd, "number" :: "function" :: ss, m, rfl, w2, hkd, need_2 _, by simp; omega, hm, fun M3 a ha h3 w3 => ?_⟩
    walk_at "d"
    refine ⟨.u2 .call (.u1 .fn (.u2 .call (.name 2) (.u2 .minus (.name 1) (.num 1)))) a, rfl, ?_, ?_, ?_, (h1.trans h2).trans h3, w3⟩
    · show (_ && a.wf m (ss.length + 2)) = true
      rw [show a.wf m (ss.length + 2) = true from ha.wf]
      simp [Tm.wf, W1.b]
    · have := ha.len
      simp only [Tm.len, W1.b]
      omega
    · have := ha.dep
      simp only [Tm.dep]
      omega
  · rintro ds' M2 ⟨b, rfl, hb1, hb2, hb3, h2, w2⟩
    walk_at "d"
    refine ⟨p, "number", "number" :: "function" :: ss, m, rfl, w2, hkn, need_2 _, by simp; omega, hm, fun M3 a ha h3 w3 => ?_⟩
    walk_at "d"
    refine q M3 (.u1 .again (.u3 (.name 0) a b)) ?_ ?_ ?_ rfl (h2.trans h3) w3
    · show (_ && a.wf m (ss.length + 2) && b.wf m (ss.length + 2)) = true
      rw [show a.wf m (ss.length + 2) = true from ha.wf, hb1]
      simp [Tm.wf, W1.b]
    · have := (ha.num rfl).1
      simp only [Tm.len, W1.b]
      omega
    · have := (ha.num rfl).2
      simp only [Tm.dep]
      omega
end
end FS
set_option maxHeartbeats 4000000
namespace FS
open PySem PySem.Spec PyProof.Rows L2
local macro_rules | `(tactic| walk_at "t") => `(tactic| exact use_hole (by assumption))
local macro_rules | `(tactic| walk_at "t") => `(tactic| exact use_at (by assumption))
local macro_rules | `(tactic| walk_at "t") => `(tactic| exact use_name (by assumption))
local macro_rules | `(tactic| walk_at "t") => `(tactic| exact use_num (by assumption))
local macro_rules | `(tactic| walk_at "t") => `(tactic| exact leaf_leaves (by assumption))
local macro_rules | `(tactic| walk_at "t") => `(tactic| exact use_leaves (by assumption))
local macro_rules | `(tactic| walk_at "t") => `(tactic| assumption)
local macro_rules | `(tactic| walk_at "t") => `(tactic| decide +kernel)
local macro_rules | `(tactic| walk_at "t") => `(tactic| rfl)
local macro_rules | `(tactic| walk_at "d1") => `(tactic| (with_reducible refine ⟨_, _, _, rfl, ?_⟩))
local macro_rules | `(tactic| walk_at "d1") => `(tactic| (with_reducible refine ⟨_, _, rfl, ?_⟩))
local macro_rules | `(tactic| walk_at "d1") => `(tactic| ((with_reducible refine rv_fdiv ?h1 ?_); (case h1 => exact ⟨by decide, by decide⟩)))
local macro_rules | `(tactic| walk_at "d1") => `(tactic| ((with_reducible refine rv_mod ?h1 ?_); (case h1 => (show (0 : Int) < _; decide))))
local macro_rules | `(tactic| walk_at "d1") => `(tactic| (with_reducible refine we_call (dxs := [.int 0]) (fun H => .cons (.int 0) .nil) ?_))
local macro_rules | `(tactic| walk_at "d1") => `(tactic| ((with_reducible refine' we_c ?h1 ?_); (case h1 => assumption)))
local macro_rules | `(tactic| walk_at "d1") => `(tactic| (with_reducible refine wt_yes ?_))
local macro_rules | `(tactic| walk_at "d1") => `(tactic| (with_reducible refine wg_name ?_))
local macro_rules | `(tactic| walk_at "d1") => `(tactic| (with_reducible refine rv_ix3 ?_))
local macro_rules | `(tactic| walk_at "d1") => `(tactic| (with_reducible refine rv_ix2 ?_))
local macro_rules | `(tactic| walk_at "d1") => `(tactic| (with_reducible refine rv_notN ?_))
local macro_rules | `(tactic| walk_at "d1") => `(tactic| (with_reducible refine rv_isN ?_))
local macro_rules | `(tactic| walk_at "d1") => `(tactic| (with_reducible refine rv_neS ?_))
local macro_rules | `(tactic| walk_at "d1") => `(tactic| (with_reducible refine rv_ge ?_))
local macro_rules | `(tactic| walk_at "d1") => `(tactic| (with_reducible refine rv_gt ?_))
local macro_rules | `(tactic| walk_at "d1") => `(tactic| (with_reducible refine rv_le ?_))
local macro_rules | `(tactic| walk_at "d1") => `(tactic| (with_reducible refine rv_sub ?_))
local macro_rules | `(tactic| walk_at "d1") => `(tactic| (with_reducible refine wo_some ?_))
local macro_rules | `(tactic| walk_at "d1") => `(tactic| (with_reducible refine wo_none ?_))
local macro_rules | `(tactic| walk_at "d1") => `(tactic| (with_reducible refine we_then ?_))
local macro_rules | `(tactic| walk_at "d1") => `(tactic| (with_reducible refine we_un ?_))
local macro_rules | `(tactic| walk_at "d1") => `(tactic| (with_reducible refine we_chain ?_))
local macro_rules | `(tactic| walk_at "d1") => `(tactic| (with_reducible refine we_if ?_))
local macro_rules | `(tactic| walk_at "d1") => `(tactic| (with_reducible refine we_not ?_))
local macro_rules | `(tactic| walk_at "d1") => `(tactic| (with_reducible refine we_or ?_))
local macro_rules | `(tactic| walk_at "d1") => `(tactic| (with_reducible refine we_and ?_))
local macro_rules | `(tactic| walk_at "d1") => `(tactic| (with_reducible refine wt_not ?_))
local macro_rules | `(tactic| walk_at "d1") => `(tactic| (with_reducible refine wt_B ?_))
local macro_rules | `(tactic| walk_at "d1") => `(tactic| (with_reducible refine we_slT ?_))
local macro_rules | `(tactic| walk_at "d1") => `(tactic| (with_reducible refine we_lst ?_))
local macro_rules | `(tactic| walk_at "d1") => `(tactic| (with_reducible refine we_ty ?_))
local macro_rules | `(tactic| walk_at "d1") => `(tactic| (with_reducible refine we_non ?_))
local macro_rules | `(tactic| walk_at "d1") => `(tactic| (with_reducible refine we_bl ?_))
local macro_rules | `(tactic| walk_at "d1") => `(tactic| (with_reducible refine ws_asg ?_))
local macro_rules | `(tactic| walk_at "d1") => `(tactic| (with_reducible refine ws_par3 ?_))
local macro_rules | `(tactic| walk_at "d1") => `(tactic| (with_reducible refine ws_par ?_))
local macro_rules | `(tactic| walk_at "d1") => `(tactic| (with_reducible refine ws_drop ?_))
local macro_rules | `(tactic| walk_at "d1") => `(tactic| (with_reducible refine ru_neg ?_))
local macro_rules | `(tactic| walk_at "d1") => `(tactic| (with_reducible refine rl_isi_bb ?_))
local macro_rules | `(tactic| walk_at "d1") => `(tactic| (with_reducible refine rl_isi_bt ?_))
local macro_rules | `(tactic| walk_at "d1") => `(tactic| (with_reducible refine rl_isi_sb ?_))
local macro_rules | `(tactic| walk_at "d1") => `(tactic| (with_reducible refine rl_isi_st ?_))
local macro_rules | `(tactic| walk_at "d1") => `(tactic| (with_reducible refine rl_isi_is ?_))
local macro_rules | `(tactic| walk_at "d1") => `(tactic| (with_reducible refine rl_isi_it ?_))
local macro_rules | `(tactic| walk_at "d1") => `(tactic| (with_reducible refine rl_isi_ib ?_))
local macro_rules | `(tactic| walk_at "d1") => `(tactic| (with_reducible refine rl_isi_ii ?_))
local macro_rules | `(tactic| walk_at "d1") => `(tactic| (with_reducible refine rl_isi_ss ?_))
local macro_rules | `(tactic| walk_at "d1") => `(tactic| (with_reducible refine rl_isi_tt ?_))
local macro_rules | `(tactic| walk_at "d1") => `(tactic| (with_reducible refine rl_abs ?_))
local macro_rules | `(tactic| walk_at "d1") => `(tactic| (with_reducible refine rl_int ?_))
local macro_rules | `(tactic| walk_at "d1") => `(tactic| (with_reducible refine wt_or ?_))
local macro_rules | `(tactic| walk_at "d1") => `(tactic| (with_reducible refine rv_lt ?_))
local macro_rules | `(tactic| walk_at "d1") => `(tactic| (with_reducible refine rv_add ?_))
local macro_rules | `(tactic| walk_at "d1") => `(tactic| (with_reducible refine we_cb ?_))
local macro_rules | `(tactic| walk_at "d1") => `(tactic| (with_reducible refine ws_set ?_))
local macro_rules | `(tactic| walk_at "d1") => `(tactic| (with_reducible refine rv_ix1 ?_))
local macro_rules | `(tactic| walk_at "d1") => `(tactic| (with_reducible refine wt_and ?_))
local macro_rules | `(tactic| walk_at "d1") => `(tactic| (with_reducible refine we_call0 ?_))
local macro_rules | `(tactic| walk_at "d1") => `(tactic| ((with_reducible refine br_t ?h1 ?_); (case h1 => walk_at "t")))
local macro_rules | `(tactic| walk_at "d1") => `(tactic| ((with_reducible refine rv_inT ?a1 ?a2 ?_); (case a1 => rfl); (case a2 => first | rfl | decide +kernel)))
local macro_rules | `(tactic| walk_at "d1") => `(tactic| ((with_reducible refine len_and ?h1 ?_); (case h1 => first | decide | (simp; done) | (simp; omega))))
local macro_rules | `(tactic| walk_at "d1") => `(tactic| ((with_reducible refine br_f ?h1 ?_); (case h1 => walk_at "t")))
local macro_rules | `(tactic| walk_at "d1") => `(tactic| (with_reducible refine ⟨_, rfl, ?_⟩))
local macro_rules | `(tactic| walk_at "d1") => `(tactic| (with_reducible refine ws_ret ?_))
local macro_rules | `(tactic| walk_at "d1") => `(tactic| (with_reducible refine rv_eqS ?_))
local macro_rules | `(tactic| walk_at "d1") => `(tactic| (with_reducible refine we_tup ?_))
local macro_rules | `(tactic| walk_at "d1") => `(tactic| (with_reducible refine rv_ix0 ?_))
local macro_rules | `(tactic| walk_at "d1") => `(tactic| (with_reducible refine ws_next ?_))
local macro_rules | `(tactic| walk_at "d1") => `(tactic| (with_reducible refine ws_if ?_))
local macro_rules | `(tactic| walk_at "d1") => `(tactic| (with_reducible refine wt_test ?_))
local macro_rules | `(tactic| walk_at "d1") => `(tactic| (with_reducible refine ws_seq ?_))
local macro_rules | `(tactic| walk_at "d1") => `(tactic| (with_reducible refine wa_nil ?_))
local macro_rules | `(tactic| walk_at "d1") => `(tactic| (with_reducible refine we_int ?_))
local macro_rules | `(tactic| walk_at "d1") => `(tactic| (with_reducible refine we_str ?_))
local macro_rules | `(tactic| walk_at "d1") => `(tactic| (with_reducible refine we_op ?_))
local macro_rules | `(tactic| walk_at "d1") => `(tactic| ((with_reducible refine' we_var ?h1 ?_); (case h1 => exact rfl)))
local macro_rules | `(tactic| walk_at "d1") => `(tactic| (with_reducible refine wa_cons ?_))
local macro_rules | `(tactic| walk_at "d") => `(tactic| repeat (walk_at "d1"))
theorem sc__law_turn : FnScope ["_law_well_here", "_law_branch", "_law_many"] ["_law_well_here", "_law_branch", "_law_many"] (defScope s__law_turn) := ⟨rfl, rfl, rfl, by decide +kernel, rfl, by decide +kernel, by decide +kernel⟩
theorem sc__law_loop : FnScope ["_law_well_here", "_law_many", "_law_work", "_law_further", "_law_branch", "_law_back", "_law_body", "_law_end", "_law_turns", "_law_loop_here", "_law_first"] ["_law_well_here", "_law_many"] (defScope s__law_loop) := ⟨rfl, rfl, rfl, by decide +kernel, rfl, by decide +kernel, by decide +kernel⟩
theorem rv_ixDraw {K : PySem.W.Frag} {M : Mm} {Q : Dv → Mm → Prop} {ds : List Dv} {r : Nat} (h : r < ds.length) (q : ∀ d ∈ ds, Q d M) : RV K (rIxT K) (.tup ds) (.int (r : Int)) M Q := rv_ixT (atI_nat (List.getElem?_eq_getElem h)) (q _ (List.getElem_mem h))
def T_turn : SpD := fun xs M Q => ∃ (p : Addr) (b m : Nat), xs = [.adr p, .int (b : Int), .int (m : Int)] ∧ Well M p ∧ m ≤ 100000 ∧ ∀ M' (t : Tm), t.wf m 3 = true → t.len ≤ 7 → t.dep ≤ 5 → MExB p M M' → Well M' p → Q t.enc M'
def T_loop : SpD := fun xs M Q => ∃ (p : Addr) (m : Nat), xs = [.adr p, .int (m : Int)] ∧ Well M p ∧ m ≤ 100000 ∧ ∀ M' (t : Tm), t.wf m 0 = true → t.len ≤ 40 → t.dep ≤ 15 → MExB p M M' → Well M' p → Q t.enc M'
section
variable {P : Program} {w : World} {K : PySem.W.Frag} {mg : Str → Option Value} {base : Heap}
theorem cal__law_turn (G : Glb K mg) (c__law_draw : Cal P w K mg base 1 "_law_draw" T_draw []) : Cal P w K mg base 2 "_law_turn" T_turn [] := by
  refine cal_mk (ps := ["_law_well_here", "_law_branch", "_law_many"]) G.d__law_turn (fun _ _ _ _ _ _ us hl => match us, hl with | [_, _, _], _ => rfl) sc__law_turn (fun xs M Q h => by obtain ⟨p, ss, m, rfl, _⟩ := h; rfl) fun f cdv A outer s H E hr => ⟨_, (pss_cons (ps_if (pt_cmpR op_eq (pv 1) pe_int (nomark _))
        (pss_one (ps_ret (pe_tup (pa_cons pe_str (pa_cons (pe_tup (pa_cons pe_str (pa_cons pe_int pa_nil))) (pa_cons (pe_tup (pa_cons pe_str (pa_cons (pe_tup (pa_cons pe_str (pa_cons pe_int pa_nil))) (pa_cons (pe_tup (pa_cons pe_str (pa_cons (pe_tup (pa_cons pe_str (pa_cons pe_int pa_nil))) pa_nil))) pa_nil)))) pa_nil))))))
        pss_nil)
      (pss_cons (ps_if (pt_cmpR op_eq (pv 1) pe_int (nomark _))
        (pss_one (ps_ret (pe_tup (pa_cons pe_str (pa_cons (pe_tup (pa_cons pe_str (pa_cons pe_int pa_nil))) (pa_cons (pe_tup (pa_cons pe_str (pa_cons (pe_tup (pa_cons pe_str (pa_cons pe_int pa_nil))) (pa_cons (pe_tup (pa_cons pe_str (pa_cons pe_int pa_nil))) pa_nil)))) pa_nil))))))
        pss_nil)
      (pss_cons (ps_if (pt_cmpR op_eq (pv 1) pe_int (nomark _))
        (pss_one (ps_ret (pe_tup (pa_cons pe_str (pa_cons (pe_tup (pa_cons pe_str (pa_cons (pe_tup (pa_cons pe_str (pa_cons pe_int pa_nil))) (pa_cons (pe_tup (pa_cons pe_str (pa_cons pe_int pa_nil))) pa_nil)))) pa_nil)))))
        pss_nil)
      (pss_cons (ps_if (pt_cmpR op_eq (pv 1) pe_int (nomark _))
        (pss_one (ps_ret (pe_tup (pa_cons pe_str (pa_cons (pe_tup (pa_cons pe_str (pa_cons (pe_tup (pa_cons pe_str (pa_cons pe_int pa_nil))) (pa_cons (pe_tup (pa_cons pe_str (pa_cons pe_int pa_nil))) pa_nil)))) pa_nil)))))
        pss_nil)
      (pss_cons (ps_if (PW.pt (pw_and (pt_cmpR op_eq (pv 1) pe_int (nomark _)) (pw_and1 (pt_cmpR op_gt (pv 2) pe_int (nomark _)))))
        (pss_one (ps_ret (pe_tup (pa_cons pe_str (pa_cons (pe_tup (pa_cons pe_str (pa_cons (pe_cal c__law_draw hr (by omega) ⟨rfl, rfl, rfl, rfl, rfl⟩ rfl (pa_cons (pv 0) (pa_cons (pv 2) pa_nil))) pa_nil))) (pa_cons (pe_tup (pa_cons pe_str (pa_cons (pe_tup (pa_cons pe_str (pa_cons pe_int pa_nil))) (pa_cons (pe_tup (pa_cons pe_str (pa_cons pe_int pa_nil))) pa_nil)))) pa_nil))))))
        pss_nil)
      (pss_cons (ps_if (pt_cmpR op_eq (pv 1) pe_int (nomark _))
        (pss_one (ps_ret (pe_tup (pa_cons pe_str (pa_cons (pe_tup (pa_cons pe_str (pa_cons pe_int pa_nil))) (pa_cons (pe_tup (pa_cons pe_str (pa_cons (pe_tup (pa_cons pe_str (pa_cons (pe_tup (pa_cons pe_str (pa_cons pe_int pa_nil))) (pa_cons (pe_tup (pa_cons pe_str (pa_cons (pe_tup (pa_cons pe_str (pa_cons pe_int pa_nil))) pa_nil))) pa_nil)))) pa_nil))) pa_nil))))))
        pss_nil)
      (pss_one (ps_ret (pe_tup (pa_cons pe_str (pa_cons (pe_tup (pa_cons pe_str (pa_cons pe_int pa_nil))) (pa_cons (pe_tup (pa_cons pe_str (pa_cons (pe_tup (pa_cons pe_str (pa_cons pe_int pa_nil))) pa_nil))) pa_nil)))))))))))), fun xs M Q h => ?_⟩
  obtain ⟨p, b, m, rfl, hp, hm, q⟩ := h
  walk_at "d"
  refine rv_eqI ?_
  walk_at "d"
  refine ⟨fun _ => ?_, fun _ => ?_⟩
  · walk_at "d"
    exact q M (.u2 .put (.name 2) (.u2 .pair (.name 0) (.u1 .look (.name 2)))) (by simp [Tm.wf, W1.b]) (by simp [Tm.len, W1.b]) (by simp [Tm.dep]) .refl hp
  walk_at "d"
  refine rv_eqI ?_
  walk_at "d"
  refine ⟨fun _ => ?_, fun _ => ?_⟩
  · walk_at "d"
    exact q M (.u2 .put (.name 2) (.u2 .plus (.name 0) (.num 1))) (by simp [Tm.wf, W1.b]) (by simp [Tm.len, W1.b]) (by simp [Tm.dep]) .refl hp
  walk_at "d"
  refine rv_eqI ?_
  walk_at "d"
  refine ⟨fun _ => ?_, fun _ => ?_⟩
  · walk_at "d"
    exact q M (.u1 .fn (.u2 .plus (.name 0) (.name 1))) (by simp [Tm.wf, W1.b]) (by simp [Tm.len, W1.b]) (by simp [Tm.dep]) .refl hp
  walk_at "d"
  refine rv_eqI ?_
  walk_at "d"
  refine ⟨fun _ => ?_, fun _ => ?_⟩
  · walk_at "d"
    exact q M (.u1 .say (.u2 .times (.name 0) (.num 3))) (by simp [Tm.wf, W1.b]) (by simp [Tm.len, W1.b]) (by simp [Tm.dep]) .refl hp
  refine ws_next (ws_seq (ws_if (WT.mono (Q := fun b' M' => M' = M ∧ (b' = true → 0 < m)) (wt_and ?_) ?_)))
  · walk_at "d"
    refine rv_eqI ?_
    walk_at "d"
    refine ⟨fun _ => ?_, fun _ => ⟨rfl, fun z => by cases z⟩⟩
    walk_at "d"
    refine ⟨rfl, fun z => ?_⟩
    have := of_decide_eq_true z
    omega
  rintro b' M' ⟨rfl, hm0⟩
  cases b' with
  | true =>
    have hm1 := hm0 rfl
    refine br_t rfl ?_
    walk_at "d"
    refine ⟨p, m, rfl, hp, hm1, by omega, fun M5 x hx h5 w5 => ?_⟩
    walk_at "d"
    exact q M5 (.u2 .put (.at x) (.u2 .pair (.name 0) (.name 2))) (by simp [Tm.wf, W1.b]; exact hx) (by simp [Tm.len, W1.b]) (by simp [Tm.dep]) h5 w5
  | false =>
    refine br_f rfl ?_
    walk_at "d"
    refine rv_eqI ?_
    walk_at "d"
    refine ⟨fun _ => ?_, fun _ => ?_⟩
    · walk_at "d"
      exact q _ (.u2 .put (.name 2) (.u1 .box (.u2 .pair (.name 0) (.u1 .look (.name 2))))) (by simp [Tm.wf, W1.b]) (by simp [Tm.len, W1.b]) (by simp [Tm.dep]) .refl hp
    · walk_at "d"
      exact q _ (.u2 .pair (.name 0) (.u1 .box (.name 0))) (by simp [Tm.wf, W1.b]) (by simp [Tm.len, W1.b]) (by simp [Tm.dep]) .refl hp
theorem cal__law_loop (G : Glb K mg) (c__law_draw : Cal P w K mg base 1 "_law_draw" T_draw []) (c__law_turn : Cal P w K mg base 2 "_law_turn" T_turn []) : Cal P w K mg base 3 "_law_loop" T_loop [] := by
  refine cal_mk (ps := ["_law_well_here", "_law_many"]) G.d__law_loop (fun _ _ _ _ _ _ us hl => match us, hl with | [_, _], _ => rfl) sc__law_loop (fun xs M Q h => by obtain ⟨p, m, rfl, _⟩ := h; rfl) fun f cdv A outer s H E hr => ⟨_, (pss_cons (ps_set (i := 2) sc__law_loop.nd rfl (.inl rfl) (pe_cal c__law_turn hr (by omega) ⟨rfl, rfl, rfl, rfl, rfl⟩ rfl (pa_cons (pv 0) (pa_cons (pe_cal c__law_draw hr (by omega) ⟨rfl, rfl, rfl, rfl, rfl⟩ rfl (pa_cons (pv 0) (pa_cons pe_int pa_nil))) (pa_cons (pv 1) pa_nil)))))
      (pss_cons (ps_set (i := 3) sc__law_loop.nd rfl (.inl rfl) (pe_tup (pa_cons pe_str (pa_cons (pe_tup (pa_cons pe_str (pa_cons pe_int pa_nil))) (pa_cons (pe_tup (pa_cons pe_str (pa_cons (pe_tup (pa_cons pe_str (pa_cons pe_int pa_nil))) (pa_cons (pe_tup (pa_cons pe_str (pa_cons pe_int pa_nil))) pa_nil)))) pa_nil)))))
      (pss_cons (ps_set (i := 4) sc__law_loop.nd rfl (.inl rfl) (pe_cal c__law_draw hr (by omega) ⟨rfl, rfl, rfl, rfl, rfl⟩ rfl (pa_cons (pv 0) (pa_cons pe_int pa_nil))))
      (pss_cons (ps_set (i := 5) sc__law_loop.nd rfl (.inl rfl) (pe_tup (pa_cons pe_str (pa_cons (pe_tup (pa_cons pe_str (pa_cons pe_int pa_nil))) (pa_cons (pe_tup (pa_cons pe_str (pa_cons (pe_tup (pa_cons pe_str (pa_cons pe_int pa_nil))) (pa_cons (pe_tup (pa_cons pe_str (pa_cons pe_int pa_nil))) pa_nil)))) pa_nil)))))
      (pss_cons (ps_if (pt_cmpR op_eq (pv 4) pe_int (nomark _))
        (pss_one (ps_set (i := 6) sc__law_loop.nd rfl (.inl rfl) (pe_tup (pa_cons pe_str (pa_cons (pv 2) (pa_cons (pv 5) pa_nil))))))
        (pss_one (ps_if (pt_cmpR op_eq (pv 4) pe_int (nomark _))
          (pss_one (ps_set (i := 6) sc__law_loop.nd rfl (.inl rfl) (pe_tup (pa_cons pe_str (pa_cons (pe_tup (pa_cons pe_str (pa_cons (pv 2) (pa_cons (pv 5) pa_nil)))) pa_nil)))))
          (pss_one (ps_set (i := 6) sc__law_loop.nd rfl (.inl rfl) (pe_tup (pa_cons pe_str (pa_cons (pe_tup (pa_cons pe_str (pa_cons (pv 3) pa_nil))) (pa_cons (pv 2) pa_nil)))))))))
      (pss_cons (ps_set (i := 7) sc__law_loop.nd rfl (.inl rfl) (pe_ix (ix_tupK (K := K) rfl) (pe_tup (pa_cons (pe_tup (pa_cons pe_str (pa_cons (pe_tup (pa_cons pe_str (pa_cons pe_int pa_nil))) pa_nil))) (pa_cons (pe_tup (pa_cons pe_str (pa_cons pe_int pa_nil))) (pa_cons (pe_tup (pa_cons pe_str (pa_cons pe_int pa_nil))) (pa_cons (pe_tup (pa_cons pe_str (pa_cons (pe_tup (pa_cons pe_str (pa_cons pe_int pa_nil))) (pa_cons (pe_tup (pa_cons pe_str (pa_cons pe_int pa_nil))) pa_nil)))) pa_nil))))) (pe_cal c__law_draw hr (by omega) ⟨rfl, rfl, rfl, rfl, rfl⟩ rfl (pa_cons (pv 0) (pa_cons pe_int pa_nil))) (fun _ _ => rfl)))
      (pss_cons (ps_set (i := 8) sc__law_loop.nd rfl (.inl rfl) (pe_tup (pa_cons pe_str (pa_cons (pe_op op_add pe_int (pe_cal c__law_draw hr (by omega) ⟨rfl, rfl, rfl, rfl, rfl⟩ rfl (pa_cons (pv 0) (pa_cons pe_int pa_nil)))) pa_nil))))
      (pss_cons (ps_set (i := 9) sc__law_loop.nd rfl (.inl rfl) (pe_tup (pa_cons pe_str (pa_cons (pe_tup (pa_cons pe_str (pa_cons (pe_tup (pa_cons pe_str (pa_cons (pe_tup (pa_cons pe_str (pa_cons pe_int pa_nil))) (pa_cons (pv 7) (pa_cons (pv 6) pa_nil))))) pa_nil))) (pa_cons (pv 8) pa_nil)))))
      (pss_cons (ps_set (i := 10) sc__law_loop.nd rfl (.inl rfl) (pe_ix (ix_tupK (K := K) rfl) (pe_tup (pa_cons (pe_tup (pa_cons pe_str (pa_cons pe_int pa_nil))) (pa_cons (pe_tup (pa_cons pe_str (pa_cons (pe_tup (pa_cons pe_str (pa_cons pe_int pa_nil))) (pa_cons (pe_tup (pa_cons pe_str (pa_cons pe_int pa_nil))) pa_nil)))) (pa_cons (pe_tup (pa_cons pe_str (pa_cons (pe_tup (pa_cons pe_str (pa_cons pe_int pa_nil))) pa_nil))) pa_nil)))) (pe_cal c__law_draw hr (by omega) ⟨rfl, rfl, rfl, rfl, rfl⟩ rfl (pa_cons (pv 0) (pa_cons pe_int pa_nil))) (fun _ _ => rfl)))
      (pss_cons (ps_if (pt_cmpR op_eq (pe_cal c__law_draw hr (by omega) ⟨rfl, rfl, rfl, rfl, rfl⟩ rfl (pa_cons (pv 0) (pa_cons pe_int pa_nil))) pe_int (nomark _))
        (pss_one (ps_ret (pe_tup (pa_cons pe_str (pa_cons (pe_tup (pa_cons pe_str (pa_cons (pv 9) pa_nil))) (pa_cons (pe_tup (pa_cons pe_str (pa_cons (pv 10) pa_nil))) pa_nil))))))
        pss_nil)
      (pss_one (ps_ret (pe_tup (pa_cons pe_str (pa_cons (pe_tup (pa_cons pe_str (pa_cons (pe_tup (pa_cons pe_str (pa_cons (pv 9) (pa_cons (pe_tup (pa_cons pe_str (pa_cons (pe_tup (pa_cons pe_str (pa_cons pe_int pa_nil))) pa_nil))) pa_nil)))) pa_nil))) (pa_cons (pe_tup (pa_cons pe_str (pa_cons (pv 10) pa_nil))) pa_nil)))))))))))))))), fun xs M Q h => ?_⟩
  obtain ⟨p, m, rfl, hp, hm, q⟩ := h
  walk_at "d"
  refine ⟨p, 7, rfl, hp, by decide, by decide, fun M1 x _ h1 w1 => ?_⟩
  walk_at "d"
  refine ⟨p, x, m, rfl, w1, hm, fun M2 a ha1 ha2 ha3 h2 w2 => ?_⟩
  walk_at "d"
  refine ⟨p, 4, rfl, w2, by decide, by decide, fun M3 y _ h3 w3 => ?_⟩
  refine ws_seq (ws_mid (fun ds' M' => ds' = [some (.adr p), some (.int (m : Int)), some a.enc, some (Tm.u2 .call (.name 2) (.u2 .minus (.name 1) (.num 1))).enc, some (.int (y : Int)), some (Tm.u2 .call (.name 1) (.u2 .minus (.name 0) (.num 1))).enc, none, none, none, none, none] ∧ M' = M3) ?_ ?_)
  · walk_at "d"
    exact ⟨rfl, rfl⟩
  rintro ds' M' ⟨rfl, rfl⟩
  refine ws_seq (ws_mid (fun ds'' M'' => ∃ b : Tm, ds'' = [some (.adr p), some (.int (m : Int)), some a.enc, some (Tm.u2 .call (.name 2) (.u2 .minus (.name 1) (.num 1))).enc, some (.int (y : Int)), some (Tm.u2 .call (.name 1) (.u2 .minus (.name 0) (.num 1))).enc, some b.enc, none, none, none, none] ∧ b.wf m 3 = true ∧ b.len ≤ 15 ∧ b.dep ≤ 7 ∧ M'' = M') ?_ ?_)
  · walk_at "d"
    refine rv_eqI ?_
    walk_at "d"
    refine ⟨fun _ => ?_, fun _ => ?_⟩
    · walk_at "d"
      exact ⟨.u2 .pair a (.u2 .call (.name 1) (.u2 .minus (.name 0) (.num 1))), rfl, by simp [Tm.wf, ha1], by simp [Tm.len]; omega, by simp [Tm.dep]; omega, rfl⟩
    walk_at "d"
    refine rv_eqI ?_
    walk_at "d"
    refine ⟨fun _ => ?_, fun _ => ?_⟩
    · walk_at "d"
      exact ⟨.u1 .second (.u2 .pair a (.u2 .call (.name 1) (.u2 .minus (.name 0) (.num 1)))), rfl, by simp [Tm.wf, W1.b, ha1], by simp [Tm.len, W1.b]; omega, by simp [Tm.dep]; omega, rfl⟩
    · walk_at "d"
      exact ⟨.u2 .call (.u1 .fn (.u2 .call (.name 2) (.u2 .minus (.name 1) (.num 1)))) a, rfl, by simp [Tm.wf, W1.b, ha1], by simp [Tm.len, W1.b]; omega, by simp [Tm.dep]; omega, rfl⟩
  rintro ds'' M'' ⟨b, rfl, hb1, hb2, hb3, rfl⟩
  walk_at "d"
  refine ⟨p, 4, rfl, w3, by decide, by decide, fun M4 i hi h4 w4 => ?_⟩
  refine rv_ixDraw (by simpa using hi) fun d hd => ?_
  obtain ⟨e, rfl, he1, he2, he3⟩ : ∃ e : Tm, d = e.enc ∧ e.wf m 3 = true ∧ e.len ≤ 3 ∧ e.dep ≤ 2 := by
    have hd' : d ∈ [(Tm.u1 .look (.name 2)).enc, (Tm.num 0).enc, (Tm.name 2).enc, (Tm.u2 .pair (.name 2) (.num 5)).enc] := hd
    simp only [List.mem_cons, List.not_mem_nil, or_false] at hd'
    rcases hd' with h | h | h | h
    · exact ⟨_, h, by simp [Tm.wf, W1.b], by simp [Tm.len, W1.b], by simp [Tm.dep]⟩
    · exact ⟨_, h, by simp [Tm.wf, W1.b], by simp [Tm.len, W1.b], by simp [Tm.dep]⟩
    · exact ⟨_, h, by simp [Tm.wf, W1.b], by simp [Tm.len, W1.b], by simp [Tm.dep]⟩
    · exact ⟨_, h, by simp [Tm.wf, W1.b], by simp [Tm.len, W1.b], by simp [Tm.dep]⟩
  walk_at "d"
  refine ⟨p, 7, rfl, w4, by decide, by decide, fun M5 tn htn h5 w5 => ?_⟩
  walk_at "d"
  refine ⟨p, 3, rfl, w5, by decide, by decide, fun M6 j hj h6 w6 => ?_⟩
  refine rv_ixDraw (by simpa using hj) fun d hd => ?_
  obtain ⟨g, rfl, hg1, hg2, hg3⟩ : ∃ e : Tm, d = e.enc ∧ e.wf m 0 = true ∧ e.len ≤ 3 ∧ e.dep ≤ 2 := by
    have hd' : d ∈ [(Tm.num 0).enc, (Tm.u2 .pair (.num 1) (.num 2)).enc, (Tm.u1 .fn (.name 0)).enc] := hd
    simp only [List.mem_cons, List.not_mem_nil, or_false] at hd'
    rcases hd' with h | h | h
    · exact ⟨_, h, by simp [Tm.wf, W1.b], by simp [Tm.len, W1.b], by simp [Tm.dep]⟩
    · exact ⟨_, h, by simp [Tm.wf, W1.b], by simp [Tm.len, W1.b], by simp [Tm.dep]⟩
    · exact ⟨_, h, by simp [Tm.wf, W1.b], by simp [Tm.len, W1.b], by simp [Tm.dep]⟩
  walk_at "d"
  refine ⟨p, 2, rfl, w6, by decide, by decide, fun M7 z _ h7 w7 => ?_⟩
  have mx : MExB p M M7 := (((((h1.trans h2).trans h3).trans h4).trans h5).trans h6).trans h7
  walk_at "d"
  refine rv_eqI ?_
  walk_at "d"
  refine ⟨fun _ => ?_, fun _ => ?_⟩
  · walk_at "d"
    exact q M7 (.u2 .call (.u1 .fn (.u2 .call (.u1 .again (.u3 (.name 0) e b)) (.num (1 + (tn : Int))))) (.u1 .box g)) (by simp [Tm.wf, W1.b, he1, hb1, hg1]; omega) (by simp [Tm.len, W1.b]; omega) (by simp [Tm.dep]; omega) mx w7
  · walk_at "d"
    exact q M7 (.u2 .call (.u1 .fn (.u2 .pair (.u2 .call (.u1 .again (.u3 (.name 0) e b)) (.num (1 + (tn : Int)))) (.u1 .look (.name 0)))) (.u1 .box g)) (by simp [Tm.wf, W1.b, he1, hb1, hg1]; omega) (by simp [Tm.len, W1.b]; omega) (by simp [Tm.dep]; omega) mx w7
end
end FS
set_option maxHeartbeats 4000000
namespace FS
open PySem PySem.Spec PyProof.Rows L2
local macro_rules | `(tactic| walk_at "t") => `(tactic| exact use_hole (by assumption))
local macro_rules | `(tactic| walk_at "t") => `(tactic| exact use_at (by assumption))
local macro_rules | `(tactic| walk_at "t") => `(tactic| exact use_name (by assumption))
local macro_rules | `(tactic| walk_at "t") => `(tactic| exact use_num (by assumption))
local macro_rules | `(tactic| walk_at "t") => `(tactic| exact leaf_leaves (by assumption))
local macro_rules | `(tactic| walk_at "t") => `(tactic| exact use_leaves (by assumption))
local macro_rules | `(tactic| walk_at "t") => `(tactic| assumption)
local macro_rules | `(tactic| walk_at "t") => `(tactic| decide +kernel)
local macro_rules | `(tactic| walk_at "t") => `(tactic| rfl)
local macro_rules | `(tactic| walk_at "d1") => `(tactic| (with_reducible refine ⟨_, _, _, rfl, ?_⟩))
local macro_rules | `(tactic| walk_at "d1") => `(tactic| (with_reducible refine ⟨_, _, rfl, ?_⟩))
local macro_rules | `(tactic| walk_at "d1") => `(tactic| ((with_reducible refine rv_fdiv ?h1 ?_); (case h1 => exact ⟨by decide, by decide⟩)))
local macro_rules | `(tactic| walk_at "d1") => `(tactic| ((with_reducible refine rv_mod ?h1 ?_); (case h1 => (show (0 : Int) < _; decide))))
local macro_rules | `(tactic| walk_at "d1") => `(tactic| (with_reducible refine we_call (dxs := [.int 0]) (fun H => .cons (.int 0) .nil) ?_))
local macro_rules | `(tactic| walk_at "d1") => `(tactic| ((with_reducible refine' we_c ?h1 ?_); (case h1 => assumption)))
local macro_rules | `(tactic| walk_at "d1") => `(tactic| (with_reducible refine wt_yes ?_))
local macro_rules | `(tactic| walk_at "d1") => `(tactic| (with_reducible refine wg_name ?_))
local macro_rules | `(tactic| walk_at "d1") => `(tactic| (with_reducible refine rv_ix3 ?_))
local macro_rules | `(tactic| walk_at "d1") => `(tactic| (with_reducible refine rv_ix2 ?_))
local macro_rules | `(tactic| walk_at "d1") => `(tactic| (with_reducible refine rv_notN ?_))
local macro_rules | `(tactic| walk_at "d1") => `(tactic| (with_reducible refine rv_isN ?_))
local macro_rules | `(tactic| walk_at "d1") => `(tactic| (with_reducible refine rv_neS ?_))
local macro_rules | `(tactic| walk_at "d1") => `(tactic| (with_reducible refine rv_ge ?_))
local macro_rules | `(tactic| walk_at "d1") => `(tactic| (with_reducible refine rv_gt ?_))
local macro_rules | `(tactic| walk_at "d1") => `(tactic| (with_reducible refine rv_le ?_))
local macro_rules | `(tactic| walk_at "d1") => `(tactic| (with_reducible refine rv_sub ?_))
local macro_rules | `(tactic| walk_at "d1") => `(tactic| (with_reducible refine wo_some ?_))
local macro_rules | `(tactic| walk_at "d1") => `(tactic| (with_reducible refine wo_none ?_))
local macro_rules | `(tactic| walk_at "d1") => `(tactic| (with_reducible refine we_then ?_))
local macro_rules | `(tactic| walk_at "d1") => `(tactic| (with_reducible refine we_un ?_))
local macro_rules | `(tactic| walk_at "d1") => `(tactic| (with_reducible refine we_chain ?_))
local macro_rules | `(tactic| walk_at "d1") => `(tactic| (with_reducible refine we_if ?_))
local macro_rules | `(tactic| walk_at "d1") => `(tactic| (with_reducible refine we_not ?_))
local macro_rules | `(tactic| walk_at "d1") => `(tactic| (with_reducible refine we_or ?_))
local macro_rules | `(tactic| walk_at "d1") => `(tactic| (with_reducible refine we_and ?_))
local macro_rules | `(tactic| walk_at "d1") => `(tactic| (with_reducible refine wt_not ?_))
local macro_rules | `(tactic| walk_at "d1") => `(tactic| (with_reducible refine wt_B ?_))
local macro_rules | `(tactic| walk_at "d1") => `(tactic| (with_reducible refine we_slT ?_))
local macro_rules | `(tactic| walk_at "d1") => `(tactic| (with_reducible refine we_lst ?_))
local macro_rules | `(tactic| walk_at "d1") => `(tactic| (with_reducible refine we_ty ?_))
local macro_rules | `(tactic| walk_at "d1") => `(tactic| (with_reducible refine we_non ?_))
local macro_rules | `(tactic| walk_at "d1") => `(tactic| (with_reducible refine we_bl ?_))
local macro_rules | `(tactic| walk_at "d1") => `(tactic| (with_reducible refine ws_asg ?_))
local macro_rules | `(tactic| walk_at "d1") => `(tactic| (with_reducible refine ws_par3 ?_))
local macro_rules | `(tactic| walk_at "d1") => `(tactic| (with_reducible refine ws_par ?_))
local macro_rules | `(tactic| walk_at "d1") => `(tactic| (with_reducible refine ws_drop ?_))
local macro_rules | `(tactic| walk_at "d1") => `(tactic| (with_reducible refine ru_neg ?_))
local macro_rules | `(tactic| walk_at "d1") => `(tactic| (with_reducible refine rl_isi_bb ?_))
local macro_rules | `(tactic| walk_at "d1") => `(tactic| (with_reducible refine rl_isi_bt ?_))
local macro_rules | `(tactic| walk_at "d1") => `(tactic| (with_reducible refine rl_isi_sb ?_))
local macro_rules | `(tactic| walk_at "d1") => `(tactic| (with_reducible refine rl_isi_st ?_))
local macro_rules | `(tactic| walk_at "d1") => `(tactic| (with_reducible refine rl_isi_is ?_))
local macro_rules | `(tactic| walk_at "d1") => `(tactic| (with_reducible refine rl_isi_it ?_))
local macro_rules | `(tactic| walk_at "d1") => `(tactic| (with_reducible refine rl_isi_ib ?_))
local macro_rules | `(tactic| walk_at "d1") => `(tactic| (with_reducible refine rl_isi_ii ?_))
local macro_rules | `(tactic| walk_at "d1") => `(tactic| (with_reducible refine rl_isi_ss ?_))
local macro_rules | `(tactic| walk_at "d1") => `(tactic| (with_reducible refine rl_isi_tt ?_))
local macro_rules | `(tactic| walk_at "d1") => `(tactic| (with_reducible refine rl_abs ?_))
local macro_rules | `(tactic| walk_at "d1") => `(tactic| (with_reducible refine rl_int ?_))
local macro_rules | `(tactic| walk_at "d1") => `(tactic| (with_reducible refine wt_or ?_))
local macro_rules | `(tactic| walk_at "d1") => `(tactic| (with_reducible refine rv_lt ?_))
local macro_rules | `(tactic| walk_at "d1") => `(tactic| (with_reducible refine rv_add ?_))
local macro_rules | `(tactic| walk_at "d1") => `(tactic| (with_reducible refine we_cb ?_))
local macro_rules | `(tactic| walk_at "d1") => `(tactic| (with_reducible refine ws_set ?_))
local macro_rules | `(tactic| walk_at "d1") => `(tactic| (with_reducible refine rv_ix1 ?_))
local macro_rules | `(tactic| walk_at "d1") => `(tactic| (with_reducible refine wt_and ?_))
local macro_rules | `(tactic| walk_at "d1") => `(tactic| (with_reducible refine we_call0 ?_))
local macro_rules | `(tactic| walk_at "d1") => `(tactic| ((with_reducible refine br_t ?h1 ?_); (case h1 => walk_at "t")))
local macro_rules | `(tactic| walk_at "d1") => `(tactic| ((with_reducible refine rv_inT ?a1 ?a2 ?_); (case a1 => rfl); (case a2 => first | rfl | decide +kernel)))
local macro_rules | `(tactic| walk_at "d1") => `(tactic| ((with_reducible refine len_and ?h1 ?_); (case h1 => first | decide | (simp; done) | (simp; omega))))
local macro_rules | `(tactic| walk_at "d1") => `(tactic| ((with_reducible refine br_f ?h1 ?_); (case h1 => walk_at "t")))
local macro_rules | `(tactic| walk_at "d1") => `(tactic| (with_reducible refine ⟨_, rfl, ?_⟩))
local macro_rules | `(tactic| walk_at "d1") => `(tactic| (with_reducible refine ws_ret ?_))
local macro_rules | `(tactic| walk_at "d1") => `(tactic| (with_reducible refine rv_eqS ?_))
local macro_rules | `(tactic| walk_at "d1") => `(tactic| (with_reducible refine we_tup ?_))
local macro_rules | `(tactic| walk_at "d1") => `(tactic| (with_reducible refine rv_ix0 ?_))
local macro_rules | `(tactic| walk_at "d1") => `(tactic| (with_reducible refine ws_next ?_))
local macro_rules | `(tactic| walk_at "d1") => `(tactic| (with_reducible refine ws_if ?_))
local macro_rules | `(tactic| walk_at "d1") => `(tactic| (with_reducible refine wt_test ?_))
local macro_rules | `(tactic| walk_at "d1") => `(tactic| (with_reducible refine ws_seq ?_))
local macro_rules | `(tactic| walk_at "d1") => `(tactic| (with_reducible refine wa_nil ?_))
local macro_rules | `(tactic| walk_at "d1") => `(tactic| (with_reducible refine we_int ?_))
local macro_rules | `(tactic| walk_at "d1") => `(tactic| (with_reducible refine we_str ?_))
local macro_rules | `(tactic| walk_at "d1") => `(tactic| (with_reducible refine we_op ?_))
local macro_rules | `(tactic| walk_at "d1") => `(tactic| ((with_reducible refine' we_var ?h1 ?_); (case h1 => exact rfl)))
local macro_rules | `(tactic| walk_at "d1") => `(tactic| (with_reducible refine wa_cons ?_))
local macro_rules | `(tactic| walk_at "d") => `(tactic| repeat (walk_at "d1"))
theorem sc__law_part : FnScope ["_law_well_here", "_law_kind", "_law_seen", "_law_many", "_law_left", "_law_branch", "_law_first", "_law_other", "_law_body"] ["_law_well_here", "_law_kind", "_law_seen", "_law_many", "_law_left"] (defScope s__law_part) := ⟨rfl, rfl, rfl, by decide +kernel, rfl, by decide +kernel, by decide +kernel⟩
theorem sc__law_sum : FnScope ["_law_well_here", "_law_seen", "_law_many", "_law_left", "_law_branch", "_law_first", "_law_word"] ["_law_well_here", "_law_seen", "_law_many", "_law_left"] (defScope s__law_sum) := ⟨rfl, rfl, rfl, by decide +kernel, rfl, by decide +kernel, by decide +kernel⟩
def MExC (p l : Addr) (M M' : Mm) : Prop := ∀ a o, a ≠ p → a ≠ l → M a = some o → M' a = some o
theorem MExC.trans {p l : Addr} {M M1 M2 : Mm} (a : MExC p l M M1) (b : MExC p l M1 M2) : MExC p l M M2 := fun x o n m h => b x o n m (a x o n m h)
theorem MExB.c {p l : Addr} {M M' : Mm} (h : MExB p M M') : MExC p l M M' := fun a o n _ e => h a o n e
/-- the units left -/
def Lft (M : Mm) (l : Addr) (u : Nat) (e : Int) : Prop := M l = some (.lst [.int (u : Int), .int e])
structure PartOk (m d u u' : Nat) (t : Tm) : Prop where
  wf : t.wf m d = true
  le : u' ≤ u
  len : t.len + 14 * u' ≤ 5 + 14 * u
  dep : t.dep + 4 * u' ≤ 3 + 4 * u
structure SumOk (m d u u' : Nat) (t : Tm) : Prop where
  wf : t.wf m d = true
  le : u' ≤ u
  len : t.len + 14 * u' ≤ 11 + 14 * u
  dep : t.dep + 4 * u' ≤ 4 + 4 * u
def T_part (n : Nat) : SpD := fun xs M Q => ∃ (p l : Addr) (k : Str) (ss : List Str) (m u : Nat) (e : Int), xs = [.adr p, .str k, .tup (ss.map .str), .int (m : Int), .adr l] ∧ Well M p ∧ l ≠ p ∧ Lft M l u e ∧ k ∈ kinds ∧ u < n ∧ ss.length + n ≤ 80000 ∧ m ≤ 100000 ∧
  ∀ M' t u', PartOk m ss.length u u' t → MExC p l M M' → Well M' p → Lft M' l u' e → Q t.enc M'
def T_sum (n : Nat) : SpD := fun xs M Q => ∃ (p l : Addr) (ss : List Str) (m u : Nat) (e : Int), xs = [.adr p, .tup (ss.map .str), .int (m : Int), .adr l] ∧ Well M p ∧ l ≠ p ∧ Lft M l u e ∧ u < n ∧ ss.length + n ≤ 80000 ∧ m ≤ 100000 ∧
  ∀ M' t u', SumOk m ss.length u u' t → MExC p l M M' → Well M' p → Lft M' l u' e → Q t.enc M'
theorem kn_num : ("number" : Str) ∈ kinds := by decide +kernel
theorem kn_pair : ("pair" : Str) ∈ kinds := by decide +kernel
theorem kn_fun : ("function" : Str) ∈ kinds := by decide +kernel
theorem kn_box : ("box" : Str) ∈ kinds := by decide +kernel
section
variable {P : Program} {w : World} {K : PySem.W.Frag} {mg : Str → Option Value} {base : Heap}
theorem step__law_sum (G : Glb K mg) {n : Nat} (c__law_draw : Cal P w K mg base 1 "_law_draw" T_draw []) (c__law_pick : Cal P w K mg base 2 "_law_pick" T_pick []) (c__law_part : Cal P w K mg base (2 * n + 6) "_law_part" (T_part n) []) : Cal P w K mg base (2 * n + 7) "_law_sum" (T_sum n) [] := by
  refine cal_mk (ps := ["_law_well_here", "_law_seen", "_law_many", "_law_left"]) G.d__law_sum (fun _ _ _ _ _ _ us hl => match us, hl with | [_, _, _, _], _ => rfl) sc__law_sum (fun xs M Q h => by obtain ⟨p, l, ss, m, u, e, rfl, _⟩ := h; rfl) fun f cdv A outer s H E hr => ⟨_, (pss_cons (ps_set (i := 4) sc__law_sum.nd rfl (.inl rfl) (pe_cal c__law_draw hr (by omega) ⟨rfl, rfl, rfl, rfl, rfl⟩ rfl (pa_cons (pv 0) (pa_cons pe_int pa_nil))))
      (pss_cons (ps_if (pt_cmpR op_lt (pv 4) pe_int (nomark _))
        (pss_cons (ps_set (i := 5) sc__law_sum.nd rfl (.inl rfl) (pe_cal c__law_part hr (by omega) ⟨rfl, rfl, rfl, rfl, rfl⟩ rfl (pa_cons (pv 0) (pa_cons pe_str (pa_cons (pv 1) (pa_cons (pv 2) (pa_cons (pv 3) pa_nil)))))))
        (pss_cons (ps_set (i := 6) sc__law_sum.nd rfl (.inl rfl) (pe_ix (ix_tupK (K := K) rfl) (pe_tup (pa_cons pe_str (pa_cons pe_str (pa_cons pe_str (pa_cons pe_str pa_nil))))) (pv 4) (fun _ _ => rfl)))
        (pss_one (ps_ret (pe_tup (pa_cons (pv 6) (pa_cons (pv 5) (pa_cons (pe_cal c__law_part hr (by omega) ⟨rfl, rfl, rfl, rfl, rfl⟩ rfl (pa_cons (pv 0) (pa_cons pe_str (pa_cons (pv 1) (pa_cons (pv 2) (pa_cons (pv 3) pa_nil)))))) pa_nil))))))))
        pss_nil)
      (pss_cons (ps_if (pt_cmpR op_eq (pv 4) pe_int (nomark _))
        (pss_one (ps_ret (pe_tup (pa_cons (pe_cal c__law_pick hr (by omega) ⟨rfl, rfl, rfl, rfl, rfl⟩ rfl (pa_cons (pv 0) (pa_cons (pe_tup (pa_cons pe_str (pa_cons pe_str pa_nil))) pa_nil))) (pa_cons (pe_cal c__law_part hr (by omega) ⟨rfl, rfl, rfl, rfl, rfl⟩ rfl (pa_cons (pv 0) (pa_cons pe_str (pa_cons (pv 1) (pa_cons (pv 2) (pa_cons (pv 3) pa_nil)))))) pa_nil)))))
        pss_nil)
      (pss_cons (ps_if (pt_cmpR op_eq (pv 4) pe_int (nomark _))
        (pss_one (ps_ret (pe_tup (pa_cons pe_str (pa_cons (pe_cal c__law_part hr (by omega) ⟨rfl, rfl, rfl, rfl, rfl⟩ rfl (pa_cons (pv 0) (pa_cons pe_str (pa_cons (pv 1) (pa_cons (pv 2) (pa_cons (pv 3) pa_nil)))))) pa_nil)))))
        pss_nil)
      (pss_cons (ps_if (pt_cmpR op_eq (pv 4) pe_int (nomark _))
        (pss_cons (ps_set (i := 5) sc__law_sum.nd rfl (.inl rfl) (pe_cal c__law_part hr (by omega) ⟨rfl, rfl, rfl, rfl, rfl⟩ rfl (pa_cons (pv 0) (pa_cons pe_str (pa_cons (pv 1) (pa_cons (pv 2) (pa_cons (pv 3) pa_nil)))))))
        (pss_one (ps_ret (pe_tup (pa_cons pe_str (pa_cons (pv 5) (pa_cons (pe_cal c__law_part hr (by omega) ⟨rfl, rfl, rfl, rfl, rfl⟩ rfl (pa_cons (pv 0) (pa_cons pe_str (pa_cons (pv 1) (pa_cons (pv 2) (pa_cons (pv 3) pa_nil)))))) pa_nil)))))))
        pss_nil)
      (pss_cons (ps_if (pt_cmpR op_eq (pv 4) pe_int (nomark _))
        (pss_one (ps_ret (pe_tup (pa_cons pe_str (pa_cons (pe_cal c__law_part hr (by omega) ⟨rfl, rfl, rfl, rfl, rfl⟩ rfl (pa_cons (pv 0) (pa_cons pe_str (pa_cons (pv 1) (pa_cons (pv 2) (pa_cons (pv 3) pa_nil)))))) pa_nil)))))
        pss_nil)
      (pss_cons (ps_set (i := 5) sc__law_sum.nd rfl (.inl rfl) (pe_cal c__law_part hr (by omega) ⟨rfl, rfl, rfl, rfl, rfl⟩ rfl (pa_cons (pv 0) (pa_cons pe_str (pa_cons (pv 1) (pa_cons (pv 2) (pa_cons (pv 3) pa_nil)))))))
      (pss_one (ps_ret (pe_tup (pa_cons pe_str (pa_cons (pv 5) (pa_cons (pe_cal c__law_part hr (by omega) ⟨rfl, rfl, rfl, rfl, rfl⟩ rfl (pa_cons (pv 0) (pa_cons pe_str (pa_cons (pv 1) (pa_cons (pv 2) (pa_cons (pv 3) pa_nil)))))) pa_nil))))))))))))), fun xs M Q h => ?_⟩
  obtain ⟨p, l, ss, m, u, e, rfl, hp, hlp, hl, hu, hs, hm, q⟩ := h
  have two : ∀ (w2 : W2) {M' a b u1 u2}, PartOk m ss.length u u1 a → PartOk m ss.length u1 u2 b → MExC p l M M' → Well M' p → Lft M' l u2 e → Q (Tm.u2 w2 a b).enc M' := fun w2 {M' a b u1 u2} ha hb mx hw hf => q M' (.u2 w2 a b) u2 ⟨by
    show (_ && _) = true
    rw [ha.wf, hb.wf]
    rfl, Nat.le_trans hb.le ha.le, by have := ha.len; have := hb.len; simp only [Tm.len]; omega, by have := ha.dep; have := hb.dep; have := ha.le; have := hb.le; simp only [Tm.dep]; omega⟩ mx hw hf
  have one : ∀ (w1 : W1) {M' a u1}, w1.b = 0 → PartOk m ss.length u u1 a → MExC p l M M' → Well M' p → Lft M' l u1 e → Q (Tm.u1 w1 a).enc M' := fun w1 {M' a u1} hw1 ha mx hw hf => q M' (.u1 w1 a) u1 ⟨by
    show a.wf m (ss.length + w1.b) = true
    rw [hw1]
    exact ha.wf, ha.le, by have := ha.len; simp only [Tm.len, hw1]; omega, by have := ha.dep; simp only [Tm.dep]; omega⟩ mx hw hf
  walk_at "d"
  refine ⟨p, 10, rfl, hp, by decide, by decide, fun M1 b hb h1 w1 => ?_⟩
  have l1 : Lft M1 l u e := h1 _ _ hlp hl
  walk_at "d"
  refine ⟨fun ev => ?_, fun _ => ?_⟩
  · have hb4 := of_decide_eq_true ev
    walk_at "d"
    refine ⟨p, l, "number", ss, m, u, e, rfl, w1, hlp, l1, kn_num, hu, hs, hm, fun M2 a u1 ha h2 w2 l2 => ?_⟩
    walk_at "d"
    refine rv_ixDraw (by simp; omega) fun d hd => ?_
    obtain ⟨w2', rfl⟩ : ∃ w2 : W2, d = .str w2.s := by
      have hd' : d ∈ [Dv.str W2.plus.s, .str W2.minus.s, .str W2.times.s, .str W2.plus.s] := hd
      simp only [List.mem_cons, List.not_mem_nil, or_false] at hd'
      rcases hd' with h | h | h | h <;> exact ⟨_, h⟩
    walk_at "d"
    refine ⟨p, l, "number", ss, m, u1, e, rfl, w2, hlp, l2, kn_num, by have := ha.le; omega, hs, hm, fun M3 b u2 hb h3 w3 l3 => ?_⟩
    walk_at "d"
    exact two w2' ha hb (((MExB.c h1).trans h2).trans h3) w3 l3
  walk_at "d"
  refine rv_eqI ?_
  walk_at "d"
  refine ⟨fun _ => ?_, fun _ => ?_⟩
  · walk_at "d"
    refine ⟨p, _, rfl, w1, by simp, by simp, fun M2 d hd h2 w2 => ?_⟩
    obtain ⟨w1', hwb, rfl⟩ : ∃ w1 : W1, w1.b = 0 ∧ d = .str w1.s := by
      have hd' : d ∈ [Dv.str W1.first.s, .str W1.second.s] := hd
      simp only [List.mem_cons, List.not_mem_nil, or_false] at hd'
      rcases hd' with h | h
      · exact ⟨.first, rfl, h⟩
      · exact ⟨.second, rfl, h⟩
    have l2 : Lft M2 l u e := h2 _ _ hlp l1
    walk_at "d"
    refine ⟨p, l, "pair", ss, m, u, e, rfl, w2, hlp, l2, kn_pair, hu, hs, hm, fun M3 a u1 ha h3 w3 l3 => ?_⟩
    walk_at "d"
    exact one w1' hwb ha ((MExB.c (h1.trans h2)).trans h3) w3 l3
  walk_at "d"
  refine rv_eqI ?_
  walk_at "d"
  refine ⟨fun _ => ?_, fun _ => ?_⟩
  · walk_at "d"
    refine ⟨p, l, "box", ss, m, u, e, rfl, w1, hlp, l1, kn_box, hu, hs, hm, fun M3 a u1 ha h3 w3 l3 => ?_⟩
    walk_at "d"
    exact one .look rfl ha ((MExB.c h1).trans h3) w3 l3
  walk_at "d"
  refine rv_eqI ?_
  walk_at "d"
  refine ⟨fun _ => ?_, fun _ => ?_⟩
  · walk_at "d"
    refine ⟨p, l, "box", ss, m, u, e, rfl, w1, hlp, l1, kn_box, hu, hs, hm, fun M2 a u1 ha h2 w2 l2 => ?_⟩
    walk_at "d"
    refine ⟨p, l, "number", ss, m, u1, e, rfl, w2, hlp, l2, kn_num, by have := ha.le; omega, hs, hm, fun M3 b u2 hb h3 w3 l3 => ?_⟩
    walk_at "d"
    exact two .put ha hb (((MExB.c h1).trans h2).trans h3) w3 l3
  walk_at "d"
  refine rv_eqI ?_
  walk_at "d"
  refine ⟨fun _ => ?_, fun _ => ?_⟩
  · walk_at "d"
    refine ⟨p, l, "number", ss, m, u, e, rfl, w1, hlp, l1, kn_num, hu, hs, hm, fun M3 a u1 ha h3 w3 l3 => ?_⟩
    walk_at "d"
    exact one .say rfl ha ((MExB.c h1).trans h3) w3 l3
  walk_at "d"
  refine ⟨p, l, "function", ss, m, u, e, rfl, w1, hlp, l1, kn_fun, hu, hs, hm, fun M2 a u1 ha h2 w2 l2 => ?_⟩
  walk_at "d"
  refine ⟨p, l, "number", ss, m, u1, e, rfl, w2, hlp, l2, kn_num, by have := ha.le; omega, hs, hm, fun M3 b u2 hb h3 w3 l3 => ?_⟩
  walk_at "d"
  exact two .call ha hb (((MExB.c h1).trans h2).trans h3) w3 l3
theorem step__law_part (G : Glb K mg) {n : Nat} (c__law_draw : Cal P w K mg base 1 "_law_draw" T_draw []) (c__law_pick : Cal P w K mg base 2 "_law_pick" T_pick []) (c__law_leaf : Cal P w K mg base 4 "_law_leaf" (T_leaf 2) []) (c__law_again : Cal P w K mg base 5 "_law_again" T_again []) (c__law_sum : Cal P w K mg base (2 * n + 7) "_law_sum" (T_sum n) []) (c__law_part : Cal P w K mg base (2 * n + 6) "_law_part" (T_part n) []) : Cal P w K mg base (2 * n + 8) "_law_part" (T_part (n + 1)) [] := by
  refine cal_mk (ps := ["_law_well_here", "_law_kind", "_law_seen", "_law_many", "_law_left"]) G.d__law_part (fun _ _ _ _ _ _ us hl => match us, hl with | [_, _, _, _, _], _ => rfl) sc__law_part (fun xs M Q h => by obtain ⟨p, l, k, ss, m, u, e, rfl, _⟩ := h; rfl) fun f cdv A outer s H E hr => ⟨_, (pss_cons (ps_if (pt_cmpR op_lt (pe_cal c__law_draw hr (by omega) ⟨rfl, rfl, rfl, rfl, rfl⟩ rfl (pa_cons (pv 0) (pa_cons pe_int pa_nil))) (pe_ix (ix_listK (K := K) rfl) (pv 4) pe_int (fun _ _ => rfl)) (nomark _))
        (pss_one (ps_set (i := 1) sc__law_part.nd rfl (.inl rfl) (pe_cal c__law_pick hr (by omega) ⟨rfl, rfl, rfl, rfl, rfl⟩ rfl (pa_cons (pv 0) (pa_cons (pe_tup (pa_cons pe_str (pa_cons pe_str (pa_cons pe_str (pa_cons pe_str pa_nil))))) pa_nil)))))
        pss_nil)
      (pss_cons (ps_if (PW.pt (pw_or (pt_cmpR op_lt (pe_ix (ix_listK (K := K) rfl) (pv 4) pe_int (fun _ _ => rfl)) pe_int (nomark _)) (pw_or1 (pt_cmpR op_eq (pe_cal c__law_draw hr (by omega) ⟨rfl, rfl, rfl, rfl, rfl⟩ rfl (pa_cons (pv 0) (pa_cons pe_int pa_nil))) pe_int (nomark _)))))
        (pss_one (ps_ret (pe_cal c__law_leaf hr (by omega) ⟨rfl, rfl, rfl, rfl, rfl⟩ rfl (pa_cons (pv 0) (pa_cons (pv 1) (pa_cons (pv 2) (pa_cons (pv 3) pa_nil)))))))
        pss_nil)
      (pss_cons (ps_asg (pe_op op_sub (pe_ix (ix_listK (K := K) rfl) (pv 4) pe_int (fun _ _ => rfl)) pe_int) (pg_sub (pv 4) pe_int set_list))
      (pss_cons (ps_set (i := 5) sc__law_part.nd rfl (.inl rfl) (pe_cal c__law_draw hr (by omega) ⟨rfl, rfl, rfl, rfl, rfl⟩ rfl (pa_cons (pv 0) (pa_cons pe_int pa_nil))))
      (pss_cons (ps_if (pt_cmpR op_eq (pv 5) pe_int (nomark _))
        (pss_cons (ps_set (i := 6) sc__law_part.nd rfl (.inl rfl) (pe_cal c__law_part hr (by omega) ⟨rfl, rfl, rfl, rfl, rfl⟩ rfl (pa_cons (pv 0) (pa_cons pe_str (pa_cons (pv 2) (pa_cons (pv 3) (pa_cons (pv 4) pa_nil)))))))
        (pss_one (ps_ret (pe_tup (pa_cons pe_str (pa_cons (pv 6) (pa_cons (pe_cal c__law_part hr (by omega) ⟨rfl, rfl, rfl, rfl, rfl⟩ rfl (pa_cons (pv 0) (pa_cons (pv 1) (pa_cons (pv 2) (pa_cons (pv 3) (pa_cons (pv 4) pa_nil)))))) (pa_cons (pe_cal c__law_part hr (by omega) ⟨rfl, rfl, rfl, rfl, rfl⟩ rfl (pa_cons (pv 0) (pa_cons (pv 1) (pa_cons (pv 2) (pa_cons (pv 3) (pa_cons (pv 4) pa_nil)))))) pa_nil))))))))
        pss_nil)
      (pss_cons (ps_if (pt_cmpR op_lt (pv 5) pe_int (nomark _))
        (pss_cons (ps_set (i := 7) sc__law_part.nd rfl (.inl rfl) (pe_cal c__law_pick hr (by omega) ⟨rfl, rfl, rfl, rfl, rfl⟩ rfl (pa_cons (pv 0) (pa_cons (pe_tup (pa_cons pe_str (pa_cons pe_str (pa_cons pe_str (pa_cons pe_str pa_nil))))) pa_nil))))
        (pss_cons (ps_set (i := 8) sc__law_part.nd rfl (.inl rfl) (pe_cal c__law_part hr (by omega) ⟨rfl, rfl, rfl, rfl, rfl⟩ rfl (pa_cons (pv 0) (pa_cons (pv 1) (pa_cons (pe_op (op_catK (K := K) rfl) (pe_tup (pa_cons (pv 7) pa_nil)) (pv 2)) (pa_cons (pv 3) (pa_cons (pv 4) pa_nil)))))))
        (pss_one (ps_ret (pe_tup (pa_cons pe_str (pa_cons (pe_tup (pa_cons pe_str (pa_cons (pv 8) pa_nil))) (pa_cons (pe_cal c__law_part hr (by omega) ⟨rfl, rfl, rfl, rfl, rfl⟩ rfl (pa_cons (pv 0) (pa_cons (pv 7) (pa_cons (pv 2) (pa_cons (pv 3) (pa_cons (pv 4) pa_nil)))))) pa_nil))))))))
        pss_nil)
      (pss_cons (ps_if (pt_cmpR op_eq (pv 1) pe_str (nomark _))
        (pss_one (ps_ret (pe_cal c__law_sum hr (by omega) ⟨rfl, rfl, rfl, rfl, rfl⟩ rfl (pa_cons (pv 0) (pa_cons (pv 2) (pa_cons (pv 3) (pa_cons (pv 4) pa_nil)))))))
        pss_nil)
      (pss_cons (ps_if (pt_cmpR op_eq (pv 1) pe_str (nomark _))
        (pss_cons (ps_set (i := 6) sc__law_part.nd rfl (.inl rfl) (pe_cal c__law_part hr (by omega) ⟨rfl, rfl, rfl, rfl, rfl⟩ rfl (pa_cons (pv 0) (pa_cons (pe_cal c__law_pick hr (by omega) ⟨rfl, rfl, rfl, rfl, rfl⟩ rfl (pa_cons (pv 0) (pa_cons (pe_tup (pa_cons pe_str (pa_cons pe_str (pa_cons pe_str (pa_cons pe_str pa_nil))))) pa_nil))) (pa_cons (pv 2) (pa_cons (pv 3) (pa_cons (pv 4) pa_nil)))))))
        (pss_one (ps_ret (pe_tup (pa_cons pe_str (pa_cons (pv 6) (pa_cons (pe_cal c__law_part hr (by omega) ⟨rfl, rfl, rfl, rfl, rfl⟩ rfl (pa_cons (pv 0) (pa_cons pe_str (pa_cons (pv 2) (pa_cons (pv 3) (pa_cons (pv 4) pa_nil)))))) pa_nil)))))))
        pss_nil)
      (pss_cons (ps_if (pt_cmpR op_eq (pv 1) pe_str (nomark _))
        (pss_one (ps_ret (pe_tup (pa_cons pe_str (pa_cons (pe_cal c__law_part hr (by omega) ⟨rfl, rfl, rfl, rfl, rfl⟩ rfl (pa_cons (pv 0) (pa_cons pe_str (pa_cons (pv 2) (pa_cons (pv 3) (pa_cons (pv 4) pa_nil)))))) pa_nil)))))
        pss_nil)
      (pss_cons (ps_if (pt_cmpR op_lt (pv 5) pe_int (nomark _))
        (pss_one (ps_ret (pe_cal c__law_again hr (by omega) ⟨rfl, rfl, rfl, rfl, rfl⟩ rfl (pa_cons (pv 0) (pa_cons (pv 2) (pa_cons (pv 3) pa_nil))))))
        pss_nil)
      (pss_one (ps_ret (pe_tup (pa_cons pe_str (pa_cons (pe_cal c__law_part hr (by omega) ⟨rfl, rfl, rfl, rfl, rfl⟩ rfl (pa_cons (pv 0) (pa_cons pe_str (pa_cons (pe_op (op_catK (K := K) rfl) (pe_tup (pa_cons pe_str pa_nil)) (pv 2)) (pa_cons (pv 3) (pa_cons (pv 4) pa_nil)))))) pa_nil))))))))))))))), fun xs M Q h => ?_⟩
  obtain ⟨p, l, k0, ss, m, u, e, rfl, hp, hlp, hl, hk0, hu, hs, hm, q⟩ := h
  refine ws_seq (ws_mid (fun ds' M' => ∃ k : Str, k ∈ kinds ∧ ds' = [some (.adr p), some (.str k), some (.tup (ss.map .str)), some (.int (m : Int)), some (.adr l), none, none, none, none] ∧ MExB p M M' ∧ Well M' p) ?_ ?_)
  · walk_at "d"
    refine ⟨p, 9, rfl, hp, by decide, by decide, fun M1 b hb h1 w1 => ?_⟩
    walk_at "d"
    refine rv_ixL (h1 _ _ hlp hl) rfl ?_
    walk_at "d"
    refine ⟨fun _ => ?_, fun _ => ?_⟩
    · walk_at "d"
      refine ⟨p, _, rfl, w1, by simp, by simp, fun M2 d hd h2 w2 => ?_⟩
      obtain ⟨kd, hkd, rfl⟩ : ∃ kd : Str, kd ∈ kinds ∧ d = .str kd := by
        have hd' : d ∈ [Dv.str "number", .str "pair", .str "function", .str "box"] := hd
        simp only [List.mem_cons, List.not_mem_nil, or_false] at hd'
        rcases hd' with h | h | h | h
        · exact ⟨_, kn_num, h⟩
        · exact ⟨_, kn_pair, h⟩
        · exact ⟨_, kn_fun, h⟩
        · exact ⟨_, kn_box, h⟩
      exact ⟨kd, hkd, rfl, h1.trans h2, w2⟩
    · walk_at "d"
      exact ⟨k0, hk0, rfl, h1, w1⟩
  rintro ds' M1 ⟨k, hk, rfl, h1, w1⟩
  have l1 : Lft M1 l u e := h1 _ _ hlp hl
  refine ws_seq (ws_if (WT.mono (Q := fun b M' => MExB p M1 M' ∧ Well M' p ∧ (b = false → 1 ≤ u)) (wt_or ?_) ?_))
  · walk_at "d"
    refine rv_ixL l1 rfl ?_
    walk_at "d"
    refine ⟨fun _ => ⟨.refl, w1, fun z => by cases z⟩, fun ev => ?_⟩
    have hu1 := of_decide_eq_false ev
    walk_at "d"
    refine ⟨p, 6, rfl, w1, by decide, by decide, fun M2 x _ h2 w2 => ?_⟩
    walk_at "d"
    refine rv_eqI ?_
    walk_at "d"
    exact ⟨h2, w2, fun _ => by omega⟩
  rintro b M2 ⟨h2, w2, hu1⟩
  have l2 : Lft M2 l u e := h2 _ _ hlp l1
  have mx2 := h1.trans h2
  cases b with
  | true =>
    refine br_t rfl ?_
    walk_at "d"
    refine ⟨p, k, ss, m, rfl, w2, hk, need_2 _, by omega, hm, fun M3 t ht h3 w3 => ?_⟩
    exact q M3 t u ⟨ht.wf, Nat.le_refl _, by have := ht.len; omega, by have := ht.dep; omega⟩ (MExB.c (mx2.trans h3)) w3 (h3 _ _ hlp l2)
  | false =>
    have hu2 := hu1 rfl
    refine br_f rfl ?_
    obtain ⟨v, rfl⟩ : ∃ v, u = v + 1 := ⟨u - 1, by omega⟩
    walk_at "d"
    refine rv_ixL l2 rfl ?_
    walk_at "d"
    refine wg_sub ?_
    walk_at "d"
    refine ⟨l, _, 0, _, rfl, rfl, l2, rfl, ?_⟩
    have l3 : Lft (mupd M2 l (.lst ([.int ((v + 1 : Nat) : Int), .int e].set 0 (.int (((v + 1 : Nat) : Int) - 1))))) l v e := by
      unfold Lft
      rw [mupd_same]
      have e2 : (((v + 1 : Nat) : Int) - 1) = (v : Int) := by omega
      rw [e2]
      rfl
    have mx3 : MExC p l M2 (mupd M2 l (.lst ([.int ((v + 1 : Nat) : Int), .int e].set 0 (.int (((v + 1 : Nat) : Int) - 1))))) := fun a o _ n h => by
      rw [mupd_ne n]
      exact h
    have w3 : Well (mupd M2 l (.lst ([.int ((v + 1 : Nat) : Int), .int e].set 0 (.int (((v + 1 : Nat) : Int) - 1))))) p := by
      obtain ⟨a, b, c, h⟩ := w2
      exact ⟨a, b, c, by rw [mupd_ne (Ne.symm hlp)]; exact h⟩
    generalize mupd M2 l (.lst ([.int ((v + 1 : Nat) : Int), .int e].set 0 (.int (((v + 1 : Nat) : Int) - 1)))) = M3 at l3 mx3 w3
    walk_at "d"
    refine ⟨p, 12, rfl, w3, by decide, by decide, fun M4 b hb h4 w4 => ?_⟩
    have l4 : Lft M4 l v e := h4 _ _ hlp l3
    have mx4 : MExC p l M M4 := ((MExB.c mx2).trans mx3).trans (MExB.c h4)
    have hv : v < n := by omega
    walk_at "d"
    refine rv_eqI ?_
    walk_at "d"
    refine ⟨fun _ => ?_, fun _ => ?_⟩
    · walk_at "d"
      refine ⟨p, l, "number", ss, m, v, e, rfl, w4, hlp, l4, kn_num, hv, by omega, hm, fun M5 a u1 ha h5 w5 l5 => ?_⟩
      walk_at "d"
      refine ⟨p, l, k, ss, m, u1, e, rfl, w5, hlp, l5, hk, by have := ha.le; omega, by omega, hm, fun M6 b u2 hb h6 w6 l6 => ?_⟩
      walk_at "d"
      refine ⟨p, l, k, ss, m, u2, e, rfl, w6, hlp, l6, hk, by have := ha.le; have := hb.le; omega, by omega, hm, fun M7 c u3 hc h7 w7 l7 => ?_⟩
      walk_at "d"
      have a1 := ha.le
      have a2 := ha.len
      have a3 := ha.dep
      have b1 := hb.le
      have b2 := hb.len
      have b3 := hb.dep
      have c1 := hc.le
      have c2 := hc.len
      have c3 := hc.dep
      refine q M7 (.u3 a b c) u3 ⟨?_, by omega, by simp only [Tm.len]; omega, by simp only [Tm.dep]; omega⟩ (((mx4.trans h5).trans h6).trans h7) w7 l7
      show (_ && _ && _) = true
      rw [ha.wf, hb.wf, hc.wf]
      rfl
    walk_at "d"
    refine ⟨fun _ => ?_, fun _ => ?_⟩
    · walk_at "d"
      refine ⟨p, _, rfl, w4, by simp, by simp, fun M5 d hd h5 w5 => ?_⟩
      obtain ⟨kd, hkd, rfl⟩ : ∃ kd : Str, kd ∈ kinds ∧ d = .str kd := by
        have hd' : d ∈ [Dv.str "number", .str "pair", .str "function", .str "box"] := hd
        simp only [List.mem_cons, List.not_mem_nil, or_false] at hd'
        rcases hd' with h | h | h | h
        · exact ⟨_, kn_num, h⟩
        · exact ⟨_, kn_pair, h⟩
        · exact ⟨_, kn_fun, h⟩
        · exact ⟨_, kn_box, h⟩
      have l5 : Lft M5 l v e := h5 _ _ hlp l4
      walk_at "d"
      refine rv_catT (by simp; omega) ?_
      walk_at "d"
      refine ⟨p, l, k, kd :: ss, m, v, e, rfl, w5, hlp, l5, hk, hv, by simp only [List.length_cons]; omega, hm, fun M6 a u1 ha h6 w6 l6 => ?_⟩
      walk_at "d"
      refine ⟨p, l, kd, ss, m, u1, e, rfl, w6, hlp, l6, hkd, by have := ha.le; omega, by omega, hm, fun M7 b u2 hb h7 w7 l7 => ?_⟩
      walk_at "d"
      have a1 := ha.le
      have a2 := ha.len
      have a3 := ha.dep
      have b1 := hb.le
      have b2 := hb.len
      have b3 := hb.dep
      refine q M7 (.u2 .call (.u1 .fn a) b) u2 ⟨?_, by omega, by simp only [Tm.len, W1.b]; omega, by simp only [Tm.dep]; omega⟩ (((mx4.trans (MExB.c h5)).trans h6).trans h7) w7 l7
      show (a.wf m (ss.length + 1) && _) = true
      rw [show a.wf m (ss.length + 1) = true from ha.wf, hb.wf]
      rfl
    have ksum : ∀ {M' t u'}, SumOk m ss.length v u' t → MExC p l M4 M' → Well M' p → Lft M' l u' e → Q t.enc M' := fun {M' t u'} ht mx hw hf => q M' t u' ⟨ht.wf, by have := ht.le; omega, by have := ht.len; have := ht.le; omega, by have := ht.dep; have := ht.le; omega⟩ (mx4.trans mx) hw hf
    walk_at "d"
    refine ⟨fun _ => ?_, fun _ => ?_⟩
    · walk_at "d"
      exact ⟨p, l, ss, m, v, e, rfl, w4, hlp, l4, hv, by omega, hm, fun M5 t u1 ht h5 w5 l5 => ksum ht h5 w5 l5⟩
    walk_at "d"
    refine ⟨fun _ => ?_, fun _ => ?_⟩
    · walk_at "d"
      refine ⟨p, _, rfl, w4, by simp, by simp, fun M5 d hd h5 w5 => ?_⟩
      obtain ⟨kd, hkd, rfl⟩ : ∃ kd : Str, kd ∈ kinds ∧ d = .str kd := by
        have hd' : d ∈ [Dv.str "number", .str "number", .str "box", .str "function"] := hd
        simp only [List.mem_cons, List.not_mem_nil, or_false] at hd'
        rcases hd' with h | h | h | h
        · exact ⟨_, kn_num, h⟩
        · exact ⟨_, kn_num, h⟩
        · exact ⟨_, kn_box, h⟩
        · exact ⟨_, kn_fun, h⟩
      have l5 : Lft M5 l v e := h5 _ _ hlp l4
      walk_at "d"
      refine ⟨p, l, kd, ss, m, v, e, rfl, w5, hlp, l5, hkd, hv, by omega, hm, fun M6 a u1 ha h6 w6 l6 => ?_⟩
      walk_at "d"
      refine ⟨p, l, "number", ss, m, u1, e, rfl, w6, hlp, l6, kn_num, by have := ha.le; omega, by omega, hm, fun M7 b u2 hb h7 w7 l7 => ?_⟩
      walk_at "d"
      have a1 := ha.le
      have a2 := ha.len
      have a3 := ha.dep
      have b1 := hb.le
      have b2 := hb.len
      have b3 := hb.dep
      refine q M7 (.u2 .pair a b) u2 ⟨?_, by omega, by simp only [Tm.len]; omega, by simp only [Tm.dep]; omega⟩ (((mx4.trans (MExB.c h5)).trans h6).trans h7) w7 l7
      show (_ && _) = true
      rw [ha.wf, hb.wf]
      rfl
    walk_at "d"
    refine ⟨fun _ => ?_, fun _ => ?_⟩
    · walk_at "d"
      refine ⟨p, l, "number", ss, m, v, e, rfl, w4, hlp, l4, kn_num, hv, by omega, hm, fun M6 a u1 ha h6 w6 l6 => ?_⟩
      walk_at "d"
      have a1 := ha.le
      have a2 := ha.len
      have a3 := ha.dep
      exact q M6 (.u1 .box a) u1 ⟨ha.wf, by omega, by simp only [Tm.len, W1.b]; omega, by simp only [Tm.dep]; omega⟩ (mx4.trans h6) w6 l6
    walk_at "d"
    refine ⟨fun _ => ?_, fun _ => ?_⟩
    · walk_at "d"
      exact ⟨p, ss, m, rfl, w4, by omega, hm, fun M5 t ht1 ht2 ht3 _ h5 w5 => q M5 t v ⟨ht1, by omega, by omega, by omega⟩ (mx4.trans (MExB.c h5)) w5 (h5 _ _ hlp l4)⟩
    walk_at "d"
    refine rv_catT (by simp; omega) ?_
    walk_at "d"
    refine ⟨p, l, "number", "number" :: ss, m, v, e, rfl, w4, hlp, l4, kn_num, hv, by simp only [List.length_cons]; omega, hm, fun M6 a u1 ha h6 w6 l6 => ?_⟩
    walk_at "d"
    have a1 := ha.le
    have a2 := ha.len
    have a3 := ha.dep
    exact q M6 (.u1 .fn a) u1 ⟨ha.wf, by omega, by simp only [Tm.len, W1.b]; omega, by simp only [Tm.dep]; omega⟩ (mx4.trans h6) w6 l6
end
end FS
set_option maxHeartbeats 4000000
namespace FS
open PySem PySem.Spec PyProof.Rows L2
local macro_rules | `(tactic| walk_at "t") => `(tactic| exact use_hole (by assumption))
local macro_rules | `(tactic| walk_at "t") => `(tactic| exact use_at (by assumption))
local macro_rules | `(tactic| walk_at "t") => `(tactic| exact use_name (by assumption))
local macro_rules | `(tactic| walk_at "t") => `(tactic| exact use_num (by assumption))
local macro_rules | `(tactic| walk_at "t") => `(tactic| exact leaf_leaves (by assumption))
local macro_rules | `(tactic| walk_at "t") => `(tactic| exact use_leaves (by assumption))
local macro_rules | `(tactic| walk_at "t") => `(tactic| assumption)
local macro_rules | `(tactic| walk_at "t") => `(tactic| decide +kernel)
local macro_rules | `(tactic| walk_at "t") => `(tactic| rfl)
local macro_rules | `(tactic| walk_at "d1") => `(tactic| (with_reducible refine ⟨_, _, _, rfl, ?_⟩))
local macro_rules | `(tactic| walk_at "d1") => `(tactic| (with_reducible refine ⟨_, _, rfl, ?_⟩))
local macro_rules | `(tactic| walk_at "d1") => `(tactic| ((with_reducible refine rv_fdiv ?h1 ?_); (case h1 => exact ⟨by decide, by decide⟩)))
local macro_rules | `(tactic| walk_at "d1") => `(tactic| ((with_reducible refine rv_mod ?h1 ?_); (case h1 => (show (0 : Int) < _; decide))))
local macro_rules | `(tactic| walk_at "d1") => `(tactic| (with_reducible refine we_call (dxs := [.int 0]) (fun H => .cons (.int 0) .nil) ?_))
local macro_rules | `(tactic| walk_at "d1") => `(tactic| ((with_reducible refine' we_c ?h1 ?_); (case h1 => assumption)))
local macro_rules | `(tactic| walk_at "d1") => `(tactic| (with_reducible refine wt_yes ?_))
local macro_rules | `(tactic| walk_at "d1") => `(tactic| (with_reducible refine wg_name ?_))
local macro_rules | `(tactic| walk_at "d1") => `(tactic| (with_reducible refine rv_ix3 ?_))
local macro_rules | `(tactic| walk_at "d1") => `(tactic| (with_reducible refine rv_ix2 ?_))
local macro_rules | `(tactic| walk_at "d1") => `(tactic| (with_reducible refine rv_notN ?_))
local macro_rules | `(tactic| walk_at "d1") => `(tactic| (with_reducible refine rv_isN ?_))
local macro_rules | `(tactic| walk_at "d1") => `(tactic| (with_reducible refine rv_neS ?_))
local macro_rules | `(tactic| walk_at "d1") => `(tactic| (with_reducible refine rv_ge ?_))
local macro_rules | `(tactic| walk_at "d1") => `(tactic| (with_reducible refine rv_gt ?_))
local macro_rules | `(tactic| walk_at "d1") => `(tactic| (with_reducible refine rv_le ?_))
local macro_rules | `(tactic| walk_at "d1") => `(tactic| (with_reducible refine rv_sub ?_))
local macro_rules | `(tactic| walk_at "d1") => `(tactic| (with_reducible refine wo_some ?_))
local macro_rules | `(tactic| walk_at "d1") => `(tactic| (with_reducible refine wo_none ?_))
local macro_rules | `(tactic| walk_at "d1") => `(tactic| (with_reducible refine we_then ?_))
local macro_rules | `(tactic| walk_at "d1") => `(tactic| (with_reducible refine we_un ?_))
local macro_rules | `(tactic| walk_at "d1") => `(tactic| (with_reducible refine we_chain ?_))
local macro_rules | `(tactic| walk_at "d1") => `(tactic| (with_reducible refine we_if ?_))
local macro_rules | `(tactic| walk_at "d1") => `(tactic| (with_reducible refine we_not ?_))
local macro_rules | `(tactic| walk_at "d1") => `(tactic| (with_reducible refine we_or ?_))
local macro_rules | `(tactic| walk_at "d1") => `(tactic| (with_reducible refine we_and ?_))
local macro_rules | `(tactic| walk_at "d1") => `(tactic| (with_reducible refine wt_not ?_))
local macro_rules | `(tactic| walk_at "d1") => `(tactic| (with_reducible refine wt_B ?_))
local macro_rules | `(tactic| walk_at "d1") => `(tactic| (with_reducible refine we_slT ?_))
local macro_rules | `(tactic| walk_at "d1") => `(tactic| (with_reducible refine we_lst ?_))
local macro_rules | `(tactic| walk_at "d1") => `(tactic| (with_reducible refine we_ty ?_))
local macro_rules | `(tactic| walk_at "d1") => `(tactic| (with_reducible refine we_non ?_))
local macro_rules | `(tactic| walk_at "d1") => `(tactic| (with_reducible refine we_bl ?_))
local macro_rules | `(tactic| walk_at "d1") => `(tactic| (with_reducible refine ws_asg ?_))
local macro_rules | `(tactic| walk_at "d1") => `(tactic| (with_reducible refine ws_par3 ?_))
local macro_rules | `(tactic| walk_at "d1") => `(tactic| (with_reducible refine ws_par ?_))
local macro_rules | `(tactic| walk_at "d1") => `(tactic| (with_reducible refine ws_drop ?_))
local macro_rules | `(tactic| walk_at "d1") => `(tactic| (with_reducible refine ru_neg ?_))
local macro_rules | `(tactic| walk_at "d1") => `(tactic| (with_reducible refine rl_isi_bb ?_))
local macro_rules | `(tactic| walk_at "d1") => `(tactic| (with_reducible refine rl_isi_bt ?_))
local macro_rules | `(tactic| walk_at "d1") => `(tactic| (with_reducible refine rl_isi_sb ?_))
local macro_rules | `(tactic| walk_at "d1") => `(tactic| (with_reducible refine rl_isi_st ?_))
local macro_rules | `(tactic| walk_at "d1") => `(tactic| (with_reducible refine rl_isi_is ?_))
local macro_rules | `(tactic| walk_at "d1") => `(tactic| (with_reducible refine rl_isi_it ?_))
local macro_rules | `(tactic| walk_at "d1") => `(tactic| (with_reducible refine rl_isi_ib ?_))
local macro_rules | `(tactic| walk_at "d1") => `(tactic| (with_reducible refine rl_isi_ii ?_))
local macro_rules | `(tactic| walk_at "d1") => `(tactic| (with_reducible refine rl_isi_ss ?_))
local macro_rules | `(tactic| walk_at "d1") => `(tactic| (with_reducible refine rl_isi_tt ?_))
local macro_rules | `(tactic| walk_at "d1") => `(tactic| (with_reducible refine rl_abs ?_))
local macro_rules | `(tactic| walk_at "d1") => `(tactic| (with_reducible refine rl_int ?_))
local macro_rules | `(tactic| walk_at "d1") => `(tactic| (with_reducible refine wt_or ?_))
local macro_rules | `(tactic| walk_at "d1") => `(tactic| (with_reducible refine rv_lt ?_))
local macro_rules | `(tactic| walk_at "d1") => `(tactic| (with_reducible refine rv_add ?_))
local macro_rules | `(tactic| walk_at "d1") => `(tactic| (with_reducible refine we_cb ?_))
local macro_rules | `(tactic| walk_at "d1") => `(tactic| (with_reducible refine ws_set ?_))
local macro_rules | `(tactic| walk_at "d1") => `(tactic| (with_reducible refine rv_ix1 ?_))
local macro_rules | `(tactic| walk_at "d1") => `(tactic| (with_reducible refine wt_and ?_))
local macro_rules | `(tactic| walk_at "d1") => `(tactic| (with_reducible refine we_call0 ?_))
local macro_rules | `(tactic| walk_at "d1") => `(tactic| ((with_reducible refine br_t ?h1 ?_); (case h1 => walk_at "t")))
local macro_rules | `(tactic| walk_at "d1") => `(tactic| ((with_reducible refine rv_inT ?a1 ?a2 ?_); (case a1 => rfl); (case a2 => first | rfl | decide +kernel)))
local macro_rules | `(tactic| walk_at "d1") => `(tactic| ((with_reducible refine len_and ?h1 ?_); (case h1 => first | decide | (simp; done) | (simp; omega))))
local macro_rules | `(tactic| walk_at "d1") => `(tactic| ((with_reducible refine br_f ?h1 ?_); (case h1 => walk_at "t")))
local macro_rules | `(tactic| walk_at "d1") => `(tactic| (with_reducible refine ⟨_, rfl, ?_⟩))
local macro_rules | `(tactic| walk_at "d1") => `(tactic| (with_reducible refine ws_ret ?_))
local macro_rules | `(tactic| walk_at "d1") => `(tactic| (with_reducible refine rv_eqS ?_))
local macro_rules | `(tactic| walk_at "d1") => `(tactic| (with_reducible refine we_tup ?_))
local macro_rules | `(tactic| walk_at "d1") => `(tactic| (with_reducible refine rv_ix0 ?_))
local macro_rules | `(tactic| walk_at "d1") => `(tactic| (with_reducible refine ws_next ?_))
local macro_rules | `(tactic| walk_at "d1") => `(tactic| (with_reducible refine ws_if ?_))
local macro_rules | `(tactic| walk_at "d1") => `(tactic| (with_reducible refine wt_test ?_))
local macro_rules | `(tactic| walk_at "d1") => `(tactic| (with_reducible refine ws_seq ?_))
local macro_rules | `(tactic| walk_at "d1") => `(tactic| (with_reducible refine wa_nil ?_))
local macro_rules | `(tactic| walk_at "d1") => `(tactic| (with_reducible refine we_int ?_))
local macro_rules | `(tactic| walk_at "d1") => `(tactic| (with_reducible refine we_str ?_))
local macro_rules | `(tactic| walk_at "d1") => `(tactic| (with_reducible refine we_op ?_))
local macro_rules | `(tactic| walk_at "d1") => `(tactic| ((with_reducible refine' we_var ?h1 ?_); (case h1 => exact rfl)))
local macro_rules | `(tactic| walk_at "d1") => `(tactic| (with_reducible refine wa_cons ?_))
local macro_rules | `(tactic| walk_at "d") => `(tactic| repeat (walk_at "d1"))
theorem sc__law_value : FnScope ["_law_well_here", "_law_many", "_law_deep", "_law_branch"] ["_law_well_here", "_law_many", "_law_deep"] (defScope s__law_value) := ⟨rfl, rfl, rfl, by decide +kernel, rfl, by decide +kernel, by decide +kernel⟩
theorem sc__law_program : FnScope ["_law_well_here", "_law_many", "_law_found", "_law_turn_here", "_law_left", "_law_kind"] ["_law_well_here"] (defScope s__law_program) := ⟨rfl, rfl, rfl, by decide +kernel, rfl, by decide +kernel, by decide +kernel⟩
structure ValOk (m d : Nat) (t : Tm) : Prop where
  wf : t.wf m 0 = true
  val : t.isVal = true
  len : t.len + 1 ≤ 36 * 2 ^ d
  dep : t.dep ≤ 12 + d
def T_value (n : Nat) : SpD := fun xs M Q => ∃ (p : Addr) (m d : Nat), xs = [.adr p, .int (m : Int), .int (d : Int)] ∧ Well M p ∧ m ≤ 100000 ∧ d < n ∧ ∀ M' t, ValOk m d t → MExB p M M' → Well M' p → Q t.enc M'
structure PrOk (bs : List Tm) (t : Tm) : Prop where
  few : bs.length ≤ 3
  bx : ∀ b ∈ bs, ValOk bs.length 2 b
  wf : t.wf bs.length 0 = true
  len : t.len ≤ 103
  dep : t.dep ≤ 31
def T_prog : SpD := fun xs M Q => ∃ p : Addr, xs = [.adr p] ∧ Well M p ∧ ∀ M' bs t, PrOk bs t → MExB p M M' → Well M' p → Q (encP bs t) M'
section
variable {P : Program} {w : World} {K : PySem.W.Frag} {mg : Str → Option Value} {base : Heap}
theorem pow_pos' (d : Nat) : 1 ≤ 2 ^ d := Nat.one_le_two_pow
theorem step__law_value (G : Glb K mg) {n : Nat} (c__law_draw : Cal P w K mg base 1 "_law_draw" T_draw []) (c__law_number : Cal P w K mg base 2 "_law_number" T_num []) (c__law_again : Cal P w K mg base 5 "_law_again" T_again []) (c__law_part : Cal P w K mg base 12 "_law_part" (T_part 3) []) (c__law_value : Cal P w K mg base (n + 12) "_law_value" (T_value n) []) : Cal P w K mg base (n + 13) "_law_value" (T_value (n + 1)) [] := by
  refine cal_mk (ps := ["_law_well_here", "_law_many", "_law_deep"]) G.d__law_value (fun _ _ _ _ _ _ us hl => match us, hl with | [_, _, _], _ => rfl) sc__law_value (fun xs M Q h => by obtain ⟨p, m, d, rfl, _⟩ := h; rfl) fun f cdv A outer s H E hr => ⟨_, (pss_cons (ps_set (i := 3) sc__law_value.nd rfl (.inl rfl) (pe_cal c__law_draw hr (by omega) ⟨rfl, rfl, rfl, rfl, rfl⟩ rfl (pa_cons (pv 0) (pa_cons pe_int pa_nil))))
      (pss_cons (ps_if (PW.pt (pw_and (pt_cmpR op_eq (pv 3) pe_int (nomark _)) (pw_and1 (pt_cmpR op_gt (pv 1) pe_int (nomark _)))))
        (pss_one (ps_ret (pe_tup (pa_cons pe_str (pa_cons (pe_cal c__law_draw hr (by omega) ⟨rfl, rfl, rfl, rfl, rfl⟩ rfl (pa_cons (pv 0) (pa_cons (pv 1) pa_nil))) pa_nil)))))
        pss_nil)
      (pss_cons (ps_if (PW.pt (pw_and (pt_cmpR (op_inK (K := K) rfl) (pv 3) (pe_tup (pa_cons pe_int (pa_cons pe_int pa_nil))) (by rfl)) (pw_and1 (pt_cmpR op_gt (pv 2) pe_int (nomark _)))))
        (pss_one (ps_ret (pe_tup (pa_cons pe_str (pa_cons (pe_cal c__law_value hr (by omega) ⟨rfl, rfl, rfl, rfl, rfl⟩ rfl (pa_cons (pv 0) (pa_cons (pv 1) (pa_cons (pe_op op_sub (pv 2) pe_int) pa_nil)))) (pa_cons (pe_cal c__law_value hr (by omega) ⟨rfl, rfl, rfl, rfl, rfl⟩ rfl (pa_cons (pv 0) (pa_cons (pv 1) (pa_cons (pe_op op_sub (pv 2) pe_int) pa_nil)))) pa_nil))))))
        pss_nil)
      (pss_cons (ps_if (pt_cmpR op_eq (pv 3) pe_int (nomark _))
        (pss_one (ps_ret (pe_tup (pa_cons pe_str (pa_cons (pe_cal c__law_part hr (by omega) ⟨rfl, rfl, rfl, rfl, rfl⟩ rfl (pa_cons (pv 0) (pa_cons pe_str (pa_cons (pe_tup (pa_cons pe_str pa_nil)) (pa_cons (pv 1) (pa_cons (pe_lst (pa_cons pe_int (pa_cons pe_int pa_nil))) pa_nil)))))) pa_nil)))))
        pss_nil)
      (pss_cons (ps_if (pt_cmpR op_eq (pv 3) pe_int (nomark _))
        (pss_one (ps_ret (pe_cal c__law_again hr (by omega) ⟨rfl, rfl, rfl, rfl, rfl⟩ rfl (pa_cons (pv 0) (pa_cons (pe_tup pa_nil) (pa_cons (pv 1) pa_nil))))))
        pss_nil)
      (pss_one (ps_ret (pe_cal c__law_number hr (by omega) ⟨rfl, rfl, rfl, rfl, rfl⟩ rfl (pa_cons (pv 0) pa_nil))))))))), fun xs M Q h => ?_⟩
  obtain ⟨p, m, d, rfl, hp, hm, hd, q⟩ := h
  have hpw := pow_pos' d
  walk_at "d"
  refine ⟨p, 10, rfl, hp, by decide, by decide, fun M1 b hb h1 w1 => ?_⟩
  refine ws_seq (ws_if (WT.mono (Q := fun b' M' => M' = M1 ∧ (b' = true → 0 < m)) (wt_and ?_) ?_))
  · walk_at "d"
    refine rv_eqI ?_
    walk_at "d"
    refine ⟨fun _ => ?_, fun _ => ⟨rfl, fun z => by cases z⟩⟩
    walk_at "d"
    refine ⟨rfl, fun z => ?_⟩
    have := of_decide_eq_true z
    omega
  rintro b1 M2 ⟨rfl, hm0⟩
  cases b1 with
  | true =>
    have hm1 := hm0 rfl
    refine br_t rfl ?_
    walk_at "d"
    refine ⟨p, m, rfl, w1, hm1, by omega, fun M5 x hx h5 w5 => ?_⟩
    walk_at "d"
    exact q M5 (.at x) ⟨decide_eq_true hx, rfl, by simp only [Tm.len]; omega, by simp only [Tm.dep]; omega⟩ (h1.trans h5) w5
  | false =>
  refine br_f rfl (ws_next ?_)
  refine ws_seq (ws_if (WT.mono (Q := fun b' M' => M' = M2 ∧ (b' = true → 0 < d)) (wt_and ?_) ?_))
  · walk_at "d"
    refine ⟨fun _ => ?_, fun _ => ⟨rfl, fun z => by cases z⟩⟩
    walk_at "d"
    refine ⟨rfl, fun z => ?_⟩
    have := of_decide_eq_true z
    omega
  rintro b2 M3 ⟨rfl, hd0⟩
  cases b2 with
  | true =>
    obtain ⟨c, rfl⟩ : ∃ c, d = c + 1 := ⟨d - 1, by have := hd0 rfl; omega⟩
    have e2 : (((c + 1 : Nat) : Int) - 1) = (c : Int) := by omega
    refine br_t rfl ?_
    walk_at "d"
    rw [e2]
    refine ⟨p, m, c, rfl, w1, hm, by omega, fun M5 a ha h5 w5 => ?_⟩
    walk_at "d"
    rw [e2]
    refine ⟨p, m, c, rfl, w5, hm, by omega, fun M6 b hb h6 w6 => ?_⟩
    walk_at "d"
    refine q M6 (.u2 .pair a b) ⟨?_, ?_, ?_, ?_⟩ ((h1.trans h5).trans h6) w6
    · show (_ && _) = true
      rw [ha.wf, hb.wf]
      rfl
    · show (_ && _) = true
      rw [ha.val, hb.val]
      rfl
    · have := ha.len
      have := hb.len
      rw [Nat.pow_succ]
      simp only [Tm.len]
      omega
    · have := ha.dep
      have := hb.dep
      simp only [Tm.dep]
      omega
  | false =>
  refine br_f rfl ?_
  walk_at "d"
  refine rv_eqI ?_
  walk_at "d"
  refine ⟨fun _ => ?_, fun _ => ?_⟩
  · walk_at "d"
    intro l nl
    have hlp : l ≠ p := fun e => by
      obtain ⟨a, b, c, h⟩ := w1
      rw [e, h] at nl
      cases nl
    have h4 : MEx M3 (mupd M3 l (.lst [.int 2, .int 0])) := .new nl
    have l4 : Lft (mupd M3 l (.lst [.int 2, .int 0])) l 2 0 := mupd_same
    generalize mupd M3 l (.lst [.int 2, .int 0]) = M4 at h4 l4
    walk_at "d"
    refine ⟨p, l, "number", ["number"], m, 2, 0, rfl, well_up w1 h4, hlp, l4, kn_num, by decide, by decide, hm, fun M5 a u' ha h5 w5 l5 => ?_⟩
    walk_at "d"
    have a1 := ha.len
    have a2 := ha.dep
    have mx : MExB p M3 M5 := fun x o n h => h5 x o n (fun e => by rw [e, nl] at h; cases h) (h4 x o h)
    exact q M5 (.u1 .fn a) ⟨ha.wf, rfl, by simp only [Tm.len, W1.b]; omega, by simp only [Tm.dep]; omega⟩ (h1.trans mx) w5
  walk_at "d"
  refine rv_eqI ?_
  walk_at "d"
  refine ⟨fun _ => ?_, fun _ => ?_⟩
  · walk_at "d"
    refine ⟨p, [], m, rfl, w1, by decide, hm, fun M5 t ht1 ht2 ht3 ht4 h5 w5 => ?_⟩
    walk_at "d"
    exact q M5 t ⟨ht1, ht4, by omega, by omega⟩ (h1.trans h5) w5
  walk_at "d"
  refine ⟨p, rfl, w1, fun M5 x hx h5 w5 => ?_⟩
  exact q M5 (.num x) ⟨hx, rfl, by simp only [Tm.len]; omega, by simp only [Tm.dep]; omega⟩ (h1.trans h5) w5
theorem cal__law_program (G : Glb K mg) (c__law_draw : Cal P w K mg base 1 "_law_draw" T_draw []) (c__law_pick : Cal P w K mg base 2 "_law_pick" T_pick []) (c__law_loop : Cal P w K mg base 3 "_law_loop" T_loop []) (c__law_part : Cal P w K mg base 22 "_law_part" (T_part 8) []) (c__law_value : Cal P w K mg base 15 "_law_value" (T_value 3) []) : Cal P w K mg base 23 "_law_program" T_prog [] := by
  refine cal_mk (ps := ["_law_well_here"]) G.d__law_program (fun _ _ _ _ _ _ us hl => match us, hl with | [_], _ => rfl) sc__law_program (fun xs M Q h => by obtain ⟨p, rfl, _⟩ := h; rfl) fun f cdv A outer s H E hr => ⟨_, (pss_cons (ps_par (i := 1) (j := 2) (by rfl) sc__law_program.nd rfl rfl (by decide) rfl rfl (pa_cons (pe_cal c__law_pick hr (by omega) ⟨rfl, rfl, rfl, rfl, rfl⟩ rfl (pa_cons (pv 0) (pa_cons (pe_tup (pa_cons pe_int (pa_cons pe_int (pa_cons pe_int (pa_cons pe_int (pa_cons pe_int pa_nil)))))) pa_nil))) (pa_cons (pe_lst pa_nil) pa_nil)) (by rfl))
      (pss_cons (ps_for PassesOwn.never rfl (pi_range1 rfl G.b_range (pa_cons (pv 1) pa_nil)) (pg_name (i := 3) sc__law_program.nd rfl (.inl rfl))
        (pss_one (ps_expr (pe_bmK (K := K) rfl PySem.F.plainAttrs_list PySem.F.slot_list_append PySem.F.type_list_append mt_append (pv 2) (pa_cons (pe_cal c__law_value hr (by omega) ⟨rfl, rfl, rfl, rfl, rfl⟩ rfl (pa_cons (pv 0) (pa_cons (pv 1) (pa_cons pe_int pa_nil)))) pa_nil)))))
      (pss_cons (ps_if (pt_cmpR op_eq (pe_cal c__law_draw hr (by omega) ⟨rfl, rfl, rfl, rfl, rfl⟩ rfl (pa_cons (pv 0) (pa_cons pe_int pa_nil))) pe_int (nomark _))
        (pss_one (ps_ret (pe_tup (pa_cons (pe_tupleK (K := K) rfl rfl G.b_tuple (pv 2)) (pa_cons (pe_cal c__law_loop hr (by omega) ⟨rfl, rfl, rfl, rfl, rfl⟩ rfl (pa_cons (pv 0) (pa_cons (pv 1) pa_nil))) pa_nil)))))
        pss_nil)
      (pss_cons (ps_set (i := 4) sc__law_program.nd rfl (.inl rfl) (pe_lst (pa_cons (pe_op op_add pe_int (pe_cal c__law_draw hr (by omega) ⟨rfl, rfl, rfl, rfl, rfl⟩ rfl (pa_cons (pv 0) (pa_cons pe_int pa_nil)))) (pa_cons (pe_ifExp (pt_cmpR op_eq (pe_cal c__law_draw hr (by omega) ⟨rfl, rfl, rfl, rfl, rfl⟩ rfl (pa_cons (pv 0) (pa_cons pe_int pa_nil))) pe_int (nomark _)) pe_int pe_int) pa_nil))))
      (pss_cons (ps_set (i := 5) sc__law_program.nd rfl (.inl rfl) (pe_cal c__law_pick hr (by omega) ⟨rfl, rfl, rfl, rfl, rfl⟩ rfl (pa_cons (pv 0) (pa_cons (pe_tup (pa_cons pe_str (pa_cons pe_str (pa_cons pe_str (pa_cons pe_str (pa_cons pe_str pa_nil)))))) pa_nil))))
      (pss_one (ps_ret (pe_tup (pa_cons (pe_tupleK (K := K) rfl rfl G.b_tuple (pv 2)) (pa_cons (pe_cal c__law_part hr (by omega) ⟨rfl, rfl, rfl, rfl, rfl⟩ rfl (pa_cons (pv 0) (pa_cons (pv 5) (pa_cons (pe_tup pa_nil) (pa_cons (pv 1) (pa_cons (pv 4) pa_nil)))))) pa_nil)))))))))), fun xs M Q h => ?_⟩
  obtain ⟨p, rfl, hp, q⟩ := h
  walk_at "d"
  refine ⟨p, _, rfl, hp, by simp, by simp, fun M1 d hd h1 w1 => ?_⟩
  obtain ⟨m, hm, rfl⟩ : ∃ m : Nat, m ≤ 3 ∧ d = .int (m : Int) := by
    have hd' : d ∈ [Dv.int 0, .int 1, .int 2, .int 0, .int 3] := hd
    simp only [List.mem_cons, List.not_mem_nil, or_false] at hd'
    rcases hd' with h | h | h | h | h
    · exact ⟨0, by decide, h⟩
    · exact ⟨1, by decide, h⟩
    · exact ⟨2, by decide, h⟩
    · exact ⟨0, by decide, h⟩
    · exact ⟨3, by decide, h⟩
  walk_at "d"
  intro r nr
  have hrp : r ≠ p := fun e => by
    obtain ⟨a, b, c, h⟩ := w1
    rw [e, h] at nr
    cases nr
  have h2 : MEx M1 (mupd M1 r (.lst [])) := .new nr
  have hr2 : mupd M1 r (.lst []) r = some (.lst []) := mupd_same
  generalize mupd M1 r (.lst []) = M2 at h2 hr2
  have nM : M r = none := by
    cases e : M r with
    | none => rfl
    | some o =>
      rw [h1 r o hrp e] at nr
      cases nr
  have keep : ∀ {Ma Mb : Mm}, MExB p M Ma → (∀ a o, a ≠ p → a ≠ r → Ma a = some o → Mb a = some o) → MExB p M Mb := fun {Ma Mb} h k a o n e => k a o n (fun z => by rw [z, nM] at e; cases e) (h a o n e)
  walk_at "d"
  refine ws_forR m (fun i ds' M' => ∃ (bs : List Tm) (a : Option Dv), ds' = [some (.adr p), some (.int (m : Int)), some (.adr r), a, none, none] ∧ bs.length = i ∧ (∀ b ∈ bs, ValOk m 2 b) ∧ M' r = some (.lst (bs.map Tm.enc)) ∧ Well M' p ∧ MExB p M M') ?_ ?_ ?_
  · walk_at "d"
    exact ⟨rfl, by omega, [], none, rfl, rfl, fun b hb => (by cases hb), hr2, well_up w1 h2, h1.trans h2.b⟩
  · rintro i ds' M3 hi ⟨bs, a, rfl, hbl, hbs, hr3, w3, mx3⟩
    walk_at "d"
    refine we_append (we_var rfl ⟨r, rfl, ⟨_, hr3⟩, ?_⟩)
    walk_at "d"
    refine ⟨p, m, 2, rfl, w3, by omega, by decide, fun M4 t ht h4 w4 => ?_⟩
    refine ⟨_, h4 _ _ hrp hr3, by rw [List.length_map]; omega, ?_⟩
    refine ⟨bs ++ [t], _, rfl, by simp [hbl], fun b hb => ?_, by rw [mupd_same, List.map_append]; rfl, ?_, ?_⟩
    · rcases List.mem_append.mp hb with hb | hb
      · exact hbs b hb
      · rw [List.mem_singleton.mp hb]
        exact ht
    · obtain ⟨x, y, z, h⟩ := w4
      exact ⟨x, y, z, by rw [mupd_ne (Ne.symm hrp)]; exact h⟩
    · exact keep (mx3.trans h4) fun a o _ n e => by
        rw [mupd_ne n]
        exact e
  · rintro ds' M3 ⟨bs, a, rfl, hbl, hbs, hr3, w3, mx3⟩
    rw [← hbl] at hbs
    walk_at "d"
    refine ⟨p, 3, rfl, w3, by decide, by decide, fun M4 x _ h4 w4 => ?_⟩
    have hr4 := h4 _ _ hrp hr3
    walk_at "d"
    refine rv_eqI ?_
    walk_at "d"
    refine ⟨fun _ => ?_, fun _ => ?_⟩
    · walk_at "d"
      refine ru_tupL hr4 ?_
      walk_at "d"
      refine ⟨p, m, rfl, w4, by omega, fun M5 t ht1 ht2 ht3 h5 w5 => ?_⟩
      walk_at "d"
      exact q M5 bs t ⟨by omega, hbs, by rw [hbl]; exact ht1, by omega, by omega⟩ ((mx3.trans h4).trans h5) w5
    walk_at "d"
    refine ⟨p, 6, rfl, w4, by decide, by decide, fun M5 y hy h5 w5 => ?_⟩
    walk_at "d"
    refine ⟨p, 4, rfl, w5, by decide, by decide, fun M6 z _ h6 w6 => ?_⟩
    walk_at "d"
    refine rv_eqI ?_
    have e2 : ((2 : Int) + (y : Int)) = ((2 + y : Nat) : Int) := by omega
    rw [e2]
    have hr6 := h6 _ _ hrp (h5 _ _ hrp hr4)
    have mx6 := ((mx3.trans h4).trans h5).trans h6
    have rest : ∀ (e : Int) M7 l, M6 l = none → M7 = mupd M6 l (.lst [.int ((2 + y : Nat) : Int), .int e]) → l ≠ p ∧ Lft M7 l (2 + y) e ∧ Well M7 p ∧ M7 r = some (.lst (bs.map Tm.enc)) ∧ MExB p M M7 ∧ (∀ {Ma Mb : Mm}, MExB p M Ma → MExC p l Ma Mb → MExB p M Mb) := fun e M7 l nl em => by
      have hlp : l ≠ p := fun e => by
        obtain ⟨a, b, c, h⟩ := w6
        rw [e, h] at nl
        cases nl
      have nMl : M l = none := by
        cases e : M l with
        | none => rfl
        | some o =>
          rw [mx6 l o hlp e] at nl
          cases nl
      have h7 : MEx M6 M7 := by rw [em]; exact .new nl
      exact ⟨hlp, by rw [em]; exact mupd_same, well_up w6 h7, h7 _ _ hr6, mx6.trans h7.b, fun {Ma Mb} h k a o n e => k a o n (fun z => by rw [z, nMl] at e; cases e) (h a o n e)⟩
    walk_at "d"
    refine ⟨fun _ => ?_, fun _ => ?_⟩
    all_goals
      walk_at "d"
      intro l nl
      obtain ⟨hlp, l7, w7, hr7, mx7, kp⟩ := rest _ _ l nl rfl
      generalize mupd M6 l _ = M7 at l7 w7 hr7 mx7
      walk_at "d"
      refine ⟨p, _, rfl, w7, by simp, by simp, fun M8 d hd h8 w8 => ?_⟩
      obtain ⟨kd, hkd, rfl⟩ : ∃ kd : Str, kd ∈ kinds ∧ d = .str kd := by
        have hd' : d ∈ [Dv.str "number", .str "number", .str "pair", .str "function", .str "box"] := hd
        simp only [List.mem_cons, List.not_mem_nil, or_false] at hd'
        rcases hd' with h | h | h | h | h
        · exact ⟨_, kn_num, h⟩
        · exact ⟨_, kn_num, h⟩
        · exact ⟨_, kn_pair, h⟩
        · exact ⟨_, kn_fun, h⟩
        · exact ⟨_, kn_box, h⟩
      have hr8 := h8 _ _ hrp hr7
      walk_at "d"
      refine ru_tupL hr8 ?_
      walk_at "d"
      refine ⟨p, l, kd, [], m, 2 + y, _, rfl, w8, hlp, h8 _ _ hlp l7, hkd, by omega, by decide, by omega, fun M9 t u' ht h9 w9 l9 => ?_⟩
      walk_at "d"
      have t1 := ht.len
      have t2 := ht.dep
      exact q M9 bs t ⟨by omega, hbs, by rw [hbl]; exact ht.wf, by omega, by omega⟩ (kp (mx7.trans h8) h9) w9
end
end FS
set_option maxHeartbeats 4000000
namespace FS
open PySem PySem.Spec PyProof.Rows L2
local macro_rules | `(tactic| walk_at "t") => `(tactic| exact use_hole (by assumption))
local macro_rules | `(tactic| walk_at "t") => `(tactic| exact use_at (by assumption))
local macro_rules | `(tactic| walk_at "t") => `(tactic| exact use_name (by assumption))
local macro_rules | `(tactic| walk_at "t") => `(tactic| exact use_num (by assumption))
local macro_rules | `(tactic| walk_at "t") => `(tactic| exact leaf_leaves (by assumption))
local macro_rules | `(tactic| walk_at "t") => `(tactic| exact use_leaves (by assumption))
local macro_rules | `(tactic| walk_at "t") => `(tactic| assumption)
local macro_rules | `(tactic| walk_at "t") => `(tactic| decide +kernel)
local macro_rules | `(tactic| walk_at "t") => `(tactic| rfl)
local macro_rules | `(tactic| walk_at "d1") => `(tactic| (with_reducible refine ⟨_, _, _, rfl, ?_⟩))
local macro_rules | `(tactic| walk_at "d1") => `(tactic| (with_reducible refine ⟨_, _, rfl, ?_⟩))
local macro_rules | `(tactic| walk_at "d1") => `(tactic| ((with_reducible refine rv_fdiv ?h1 ?_); (case h1 => exact ⟨by decide, by decide⟩)))
local macro_rules | `(tactic| walk_at "d1") => `(tactic| ((with_reducible refine rv_mod ?h1 ?_); (case h1 => (show (0 : Int) < _; decide))))
local macro_rules | `(tactic| walk_at "d1") => `(tactic| (with_reducible refine we_call (dxs := [.int 0]) (fun H => .cons (.int 0) .nil) ?_))
local macro_rules | `(tactic| walk_at "d1") => `(tactic| ((with_reducible refine' we_c ?h1 ?_); (case h1 => assumption)))
local macro_rules | `(tactic| walk_at "d1") => `(tactic| (with_reducible refine wt_yes ?_))
local macro_rules | `(tactic| walk_at "d1") => `(tactic| (with_reducible refine wg_name ?_))
local macro_rules | `(tactic| walk_at "d1") => `(tactic| (with_reducible refine rv_ix3 ?_))
local macro_rules | `(tactic| walk_at "d1") => `(tactic| (with_reducible refine rv_ix2 ?_))
local macro_rules | `(tactic| walk_at "d1") => `(tactic| (with_reducible refine rv_notN ?_))
local macro_rules | `(tactic| walk_at "d1") => `(tactic| (with_reducible refine rv_isN ?_))
local macro_rules | `(tactic| walk_at "d1") => `(tactic| (with_reducible refine rv_neS ?_))
local macro_rules | `(tactic| walk_at "d1") => `(tactic| (with_reducible refine rv_ge ?_))
local macro_rules | `(tactic| walk_at "d1") => `(tactic| (with_reducible refine rv_gt ?_))
local macro_rules | `(tactic| walk_at "d1") => `(tactic| (with_reducible refine rv_le ?_))
local macro_rules | `(tactic| walk_at "d1") => `(tactic| (with_reducible refine rv_sub ?_))
local macro_rules | `(tactic| walk_at "d1") => `(tactic| (with_reducible refine wo_some ?_))
local macro_rules | `(tactic| walk_at "d1") => `(tactic| (with_reducible refine wo_none ?_))
local macro_rules | `(tactic| walk_at "d1") => `(tactic| (with_reducible refine we_then ?_))
local macro_rules | `(tactic| walk_at "d1") => `(tactic| (with_reducible refine we_un ?_))
local macro_rules | `(tactic| walk_at "d1") => `(tactic| (with_reducible refine we_chain ?_))
local macro_rules | `(tactic| walk_at "d1") => `(tactic| (with_reducible refine we_if ?_))
local macro_rules | `(tactic| walk_at "d1") => `(tactic| (with_reducible refine we_not ?_))
local macro_rules | `(tactic| walk_at "d1") => `(tactic| (with_reducible refine we_or ?_))
local macro_rules | `(tactic| walk_at "d1") => `(tactic| (with_reducible refine we_and ?_))
local macro_rules | `(tactic| walk_at "d1") => `(tactic| (with_reducible refine wt_not ?_))
local macro_rules | `(tactic| walk_at "d1") => `(tactic| (with_reducible refine wt_B ?_))
local macro_rules | `(tactic| walk_at "d1") => `(tactic| (with_reducible refine we_slT ?_))
local macro_rules | `(tactic| walk_at "d1") => `(tactic| (with_reducible refine we_lst ?_))
local macro_rules | `(tactic| walk_at "d1") => `(tactic| (with_reducible refine we_ty ?_))
local macro_rules | `(tactic| walk_at "d1") => `(tactic| (with_reducible refine we_non ?_))
local macro_rules | `(tactic| walk_at "d1") => `(tactic| (with_reducible refine we_bl ?_))
local macro_rules | `(tactic| walk_at "d1") => `(tactic| (with_reducible refine ws_asg ?_))
local macro_rules | `(tactic| walk_at "d1") => `(tactic| (with_reducible refine ws_par3 ?_))
local macro_rules | `(tactic| walk_at "d1") => `(tactic| (with_reducible refine ws_par ?_))
local macro_rules | `(tactic| walk_at "d1") => `(tactic| (with_reducible refine ws_drop ?_))
local macro_rules | `(tactic| walk_at "d1") => `(tactic| (with_reducible refine ru_neg ?_))
local macro_rules | `(tactic| walk_at "d1") => `(tactic| (with_reducible refine rl_isi_bb ?_))
local macro_rules | `(tactic| walk_at "d1") => `(tactic| (with_reducible refine rl_isi_bt ?_))
local macro_rules | `(tactic| walk_at "d1") => `(tactic| (with_reducible refine rl_isi_sb ?_))
local macro_rules | `(tactic| walk_at "d1") => `(tactic| (with_reducible refine rl_isi_st ?_))
local macro_rules | `(tactic| walk_at "d1") => `(tactic| (with_reducible refine rl_isi_is ?_))
local macro_rules | `(tactic| walk_at "d1") => `(tactic| (with_reducible refine rl_isi_it ?_))
local macro_rules | `(tactic| walk_at "d1") => `(tactic| (with_reducible refine rl_isi_ib ?_))
local macro_rules | `(tactic| walk_at "d1") => `(tactic| (with_reducible refine rl_isi_ii ?_))
local macro_rules | `(tactic| walk_at "d1") => `(tactic| (with_reducible refine rl_isi_ss ?_))
local macro_rules | `(tactic| walk_at "d1") => `(tactic| (with_reducible refine rl_isi_tt ?_))
local macro_rules | `(tactic| walk_at "d1") => `(tactic| (with_reducible refine rl_abs ?_))
local macro_rules | `(tactic| walk_at "d1") => `(tactic| (with_reducible refine rl_int ?_))
local macro_rules | `(tactic| walk_at "d1") => `(tactic| (with_reducible refine wt_or ?_))
local macro_rules | `(tactic| walk_at "d1") => `(tactic| (with_reducible refine rv_lt ?_))
local macro_rules | `(tactic| walk_at "d1") => `(tactic| (with_reducible refine rv_add ?_))
local macro_rules | `(tactic| walk_at "d1") => `(tactic| (with_reducible refine we_cb ?_))
local macro_rules | `(tactic| walk_at "d1") => `(tactic| (with_reducible refine ws_set ?_))
local macro_rules | `(tactic| walk_at "d1") => `(tactic| (with_reducible refine rv_ix1 ?_))
local macro_rules | `(tactic| walk_at "d1") => `(tactic| (with_reducible refine wt_and ?_))
local macro_rules | `(tactic| walk_at "d1") => `(tactic| (with_reducible refine we_call0 ?_))
local macro_rules | `(tactic| walk_at "d1") => `(tactic| ((with_reducible refine br_t ?h1 ?_); (case h1 => walk_at "t")))
local macro_rules | `(tactic| walk_at "d1") => `(tactic| ((with_reducible refine rv_inT ?a1 ?a2 ?_); (case a1 => rfl); (case a2 => first | rfl | decide +kernel)))
local macro_rules | `(tactic| walk_at "d1") => `(tactic| ((with_reducible refine len_and ?h1 ?_); (case h1 => first | decide | (simp; done) | (simp; omega))))
local macro_rules | `(tactic| walk_at "d1") => `(tactic| ((with_reducible refine br_f ?h1 ?_); (case h1 => walk_at "t")))
local macro_rules | `(tactic| walk_at "d1") => `(tactic| (with_reducible refine ⟨_, rfl, ?_⟩))
local macro_rules | `(tactic| walk_at "d1") => `(tactic| (with_reducible refine ws_ret ?_))
local macro_rules | `(tactic| walk_at "d1") => `(tactic| (with_reducible refine rv_eqS ?_))
local macro_rules | `(tactic| walk_at "d1") => `(tactic| (with_reducible refine we_tup ?_))
local macro_rules | `(tactic| walk_at "d1") => `(tactic| (with_reducible refine rv_ix0 ?_))
local macro_rules | `(tactic| walk_at "d1") => `(tactic| (with_reducible refine ws_next ?_))
local macro_rules | `(tactic| walk_at "d1") => `(tactic| (with_reducible refine ws_if ?_))
local macro_rules | `(tactic| walk_at "d1") => `(tactic| (with_reducible refine wt_test ?_))
local macro_rules | `(tactic| walk_at "d1") => `(tactic| (with_reducible refine ws_seq ?_))
local macro_rules | `(tactic| walk_at "d1") => `(tactic| (with_reducible refine wa_nil ?_))
local macro_rules | `(tactic| walk_at "d1") => `(tactic| (with_reducible refine we_int ?_))
local macro_rules | `(tactic| walk_at "d1") => `(tactic| (with_reducible refine we_str ?_))
local macro_rules | `(tactic| walk_at "d1") => `(tactic| (with_reducible refine we_op ?_))
local macro_rules | `(tactic| walk_at "d1") => `(tactic| ((with_reducible refine' we_var ?h1 ?_); (case h1 => exact rfl)))
local macro_rules | `(tactic| walk_at "d1") => `(tactic| (with_reducible refine wa_cons ?_))
local macro_rules | `(tactic| walk_at "d") => `(tactic| repeat (walk_at "d1"))
theorem sc__law_jumbled : FnScope ["_law_well_here", "_law_program_here", "_law_many", "_law_boxes", "_law_turn_here", "_law_left", "_law_order", "_law_box"] ["_law_well_here", "_law_program_here"] (defScope s__law_jumbled) := ⟨rfl, rfl, rfl, by decide +kernel, rfl, by decide +kernel, by decide +kernel⟩
def T_jum : SpD := fun xs M Q => ∃ (p : Addr) (bs : List Tm) (t : Tm), xs = [.adr p, encP bs t] ∧ Well M p ∧ PrOk bs t ∧ ∀ M' cs u, Gd cs u → MExB p M M' → Well M' p → Q (encP cs u) M'
theorem new_ne {M : Mm} {p r : Addr} (h : ∃ o, M p = some o) (n : M r = none) : r ≠ p := fun e => by
  obtain ⟨o, h⟩ := h
  rw [e, h] at n
  cases n
theorem none_b {p r : Addr} {M M' : Mm} (h : MExB p M M') (hr : r ≠ p) (n : M' r = none) : M r = none := by
  cases e : M r with
  | none => rfl
  | some o =>
    rw [h r o hr e] at n
    cases n
theorem MExB.keep {p r : Addr} {M Ma Mb : Mm} (h : MExB p M Ma) (nr : M r = none) (k : ∀ a o, a ≠ p → a ≠ r → Ma a = some o → Mb a = some o) : MExB p M Mb := fun a o n e => k a o n (fun z => by rw [z, nr] at e; cases e) (h a o n e)
theorem Well.put {M : Mm} {p r : Addr} {o : DObj} (h : Well M p) (hr : r ≠ p) : Well (mupd M r o) p := by
  obtain ⟨a, b, c, h⟩ := h
  exact ⟨a, b, c, by rw [mupd_ne (Ne.symm hr)]; exact h⟩
theorem Well.some {M : Mm} {p : Addr} (h : Well M p) : ∃ o, M p = some o := by
  obtain ⟨a, b, c, h⟩ := h
  exact ⟨_, h⟩
theorem sum_le_mul {l : List Nat} {c : Nat} (h : ∀ x ∈ l, x ≤ c) : l.sum ≤ l.length * c := by
  induction l with
  | nil => simp
  | cons x l ih =>
    have h1 := h x (List.mem_cons_self ..)
    have h2 := ih fun y hy => h y (List.mem_cons_of_mem _ hy)
    rw [List.sum_cons, List.length_cons, Nat.succ_mul]
    omega
theorem we_listRg {K : PySem.W.Frag} {ds : EnvD} {M : Mm} {Q : Dv → Mm → Prop} {te : TE} (h : WE K te ds M fun x M1 => ∃ n : Nat, x = .int (n : Int) ∧ n ≤ 1000000 ∧ ∀ l, M1 l = none → Q (.adr l) (mupd M1 l (.lst ((List.range n).map natD)))) : WE K (tLstRg (tRg1 te)) ds M Q := ⟨fun σ H hE hM R k =>
  h.run σ H hE hM _ fun v H1 x M1 e1 m1 a1 q1 => by
    obtain ⟨n, rfl, hn, q⟩ := q1
    cases a1
    refine ⟨(n : Int), rfl, .of_le (by omega) (by omega) (by omega) (by omega), fun l hl => ?_⟩
    · have e2 : ETx K H1 (upd H1 l (.lst (rgV 0 (n : Int)))) := .new hl
      refine k _ _ _ _ (e1.trans e2) (m1.put e2 (.ofL upd_same ?_)) (.adr l) (q l (m1.none hl))
      have e3 : rgV 0 (n : Int) = (List.range n).map fun (i : Nat) => V.int (i : Int) := by
        unfold rgV
        rw [Int.sub_zero, Int.toNat_natCast]
        refine List.map_congr_left fun i _ => ?_
        rw [Int.zero_add]
      rw [e3]
      have gen : ∀ (H : Hp) (l : List Nat), DAts K H (l.map fun (i : Nat) => V.int (i : Int)) (l.map natD) := fun H l => by
        induction l with
        | nil => exact .nil
        | cons i l ih => exact .cons (.int _) ih
      exact gen _ _⟩
theorem perm_ex : ∀ (l : List Nat) (i : Nat) (h : i < l.length), (l[i] :: l.eraseIdx i).Perm l
  | x :: l, 0, _ => List.Perm.refl _
  | x :: l, i + 1, h => by
    have h' : i < l.length := by simpa using h
    have ih := perm_ex l i h'
    show (l[i] :: x :: l.eraseIdx i).Perm (x :: l)
    exact (List.Perm.swap x l[i] (l.eraseIdx i)).trans (ih.cons x)
theorem erase_map {α β : Type} (f : α → β) : ∀ (l : List α) (i : Nat), (l.map f).eraseIdx i = (l.eraseIdx i).map f
  | [], _ => rfl
  | x :: l, 0 => rfl
  | x :: l, i + 1 => by
    show f x :: (l.map f).eraseIdx i = f x :: (l.eraseIdx i).map f
    rw [erase_map f l i]
/-- what a permutation of the boxes makes -/
theorem jum_gd {B : List Tm} {t : Tm} {O : List Nat} (hO : O.Perm (List.range B.length)) (hB : ∀ b ∈ B, b.wf B.length 0 = true ∧ b.isVal = true ∧ b.len ≤ 143 ∧ b.dep ≤ 14) (hl : B.length ≤ 5) (hw : t.wf B.length 0 = true) (h1 : t.len ≤ 103) (h2 : t.dep ≤ 31) : Gd (O.map fun k => (bx B k).renum O) (t.renum O) := by
  have hlen : O.length = B.length := by have := hO.length_eq; rwa [List.length_range] at this
  have hmem : ∀ k, k ∈ O ↔ k < B.length := fun k => by rw [hO.mem_iff, List.mem_range]
  have hcs : (O.map fun k => (bx B k).renum O).length = O.length := List.length_map _
  have hb : ∀ b ∈ (O.map fun k => (bx B k).renum O), b.wf O.length 0 = true ∧ b.isVal = true ∧ b.len ≤ 143 ∧ b.dep ≤ 14 := fun b hb => by
    obtain ⟨k, hk, rfl⟩ := List.mem_map.mp hb
    obtain ⟨_, hm⟩ := bx_mem ((hmem k).mp hk)
    obtain ⟨g1, g2, g3, g4⟩ := hB _ hm
    exact ⟨renum_wf _ g1 fun j hj => (hmem j).mpr (wf_has _ g1 hj), by rw [renum_val]; exact g2, by rw [renum_len]; exact g3, by rw [renum_dep]; exact g4⟩
  refine ⟨⟨fun b hbm => ?_, ?_⟩, ⟨?_, fun b hbm => ?_⟩, by rw [hcs, hlen]; omega⟩
  · rw [hcs]
    exact ⟨(hb b hbm).1, (hb b hbm).2.1⟩
  · rw [hcs]
    exact renum_wf _ hw fun j hj => (hmem j).mpr (wf_has _ hw hj)
  · have h3 := sum_le_mul (l := (O.map fun k => (bx B k).renum O).map Tm.len) (c := 143) fun x hx => by
      obtain ⟨b, hbm, rfl⟩ := List.mem_map.mp hx
      exact (hb b hbm).2.2.1
    rw [List.length_map, hcs, hlen] at h3
    unfold lenP
    rw [renum_len]
    have : B.length * 143 ≤ 5 * 143 := Nat.mul_le_mul_right _ hl
    omega
  · rcases List.mem_cons.mp hbm with rfl | hbm
    · rw [renum_dep]
      omega
    · have := (hb b hbm).2.2.2
      omega
section
variable {P : Program} {w : World} {K : PySem.W.Frag} {mg : Str → Option Value} {base : Heap}
theorem cal__law_jumbled (G : Glb K mg) {L : Nat} (hL : 1 ≤ L) (c__law_draw : Cal P w K mg base 1 "_law_draw" T_draw []) (c__law_value : Cal P w K mg base L "_law_value" (T_value 3) []) (c__law_renumbered : Cal P w K mg base L "_law_renumbered" (T_renum 120) []) : Cal P w K mg base (L + 1) "_law_jumbled" T_jum [] := by
  refine cal_mk (ps := ["_law_well_here", "_law_program_here"]) G.d__law_jumbled (fun _ _ _ _ _ _ us hl => match us, hl with | [_, _], _ => rfl) sc__law_jumbled (fun xs M Q h => by obtain ⟨p, bs, t, rfl, _⟩ := h; rfl) fun f cdv A outer s H E hr => ⟨_, (pss_cons (ps_asg (pe_tup (pa_cons (pe_cal c__law_draw hr (by omega) ⟨rfl, rfl, rfl, rfl, rfl⟩ rfl (pa_cons (pv 0) (pa_cons pe_int pa_nil))) (pa_cons (pe_callTy (call_listK (K := K) rfl) (by rfl) G.b_list (by decide +kernel) (pa_cons (pe_ix (ix_tupK (K := K) rfl) (pv 1) pe_int (fun _ _ => rfl)) pa_nil)) pa_nil))) (pg_tupK (K := K) (n := 2) rfl rfl (pgs_cons (pg_name (i := 2) sc__law_jumbled.nd rfl (.inl rfl)) (pgs_cons (pg_name (i := 3) sc__law_jumbled.nd rfl (.inr rfl)) pgs_nil)) (by rfl) (by rfl)))
      (pss_cons (ps_for PassesOwn.never rfl (pi_range1 rfl G.b_range (pa_cons (pv 2) pa_nil)) (pg_name (i := 4) sc__law_jumbled.nd rfl (.inl rfl))
        (pss_one (ps_expr (pe_bmK (K := K) rfl PySem.F.plainAttrs_list PySem.F.slot_list_append PySem.F.type_list_append mt_append (pv 3) (pa_cons (pe_cal c__law_value hr (by omega) ⟨rfl, rfl, rfl, rfl, rfl⟩ rfl (pa_cons (pv 0) (pa_cons (pe_op op_add (pe_callB (call_lenK (K := K) rfl) (by rfl) G.b_len PySem.boot_len (pa_cons (pe_ix (ix_tupK (K := K) rfl) (pv 1) pe_int (fun _ _ => rfl)) pa_nil)) (pv 2)) (pa_cons pe_int pa_nil)))) pa_nil)))))
      (pss_cons (ps_asg (pe_tup (pa_cons (pe_listRg rfl rfl G.b_list (prg_1 rfl G.b_range (pe_callB (call_lenK (K := K) rfl) (by rfl) G.b_len PySem.boot_len (pa_cons (pv 3) pa_nil)))) (pa_cons (pe_lst pa_nil) pa_nil))) (pg_tupK (K := K) (n := 2) rfl rfl (pgs_cons (pg_name (i := 5) sc__law_jumbled.nd rfl (.inl rfl)) (pgs_cons (pg_name (i := 6) sc__law_jumbled.nd rfl (.inr rfl)) pgs_nil)) (by rfl) (by rfl)))
      (pss_cons (ps_for PassesOwn.never rfl (pi_range1 rfl G.b_range (pa_cons (pe_callB (call_lenK (K := K) rfl) (by rfl) G.b_len PySem.boot_len (pa_cons (pv 3) pa_nil)) pa_nil)) (pg_name (i := 4) sc__law_jumbled.nd rfl (.inl rfl))
        (pss_one (ps_expr (pe_bmK (K := K) rfl PySem.F.plainAttrs_list PySem.F.slot_list_append PySem.F.type_list_append mt_append (pv 6) (pa_cons (pe_bmK (K := K) rfl PySem.F.plainAttrs_list PySem.F.slot_list_pop PySem.F.type_list_pop mt_popAt (pv 5) (pa_cons (pe_cal c__law_draw hr (by omega) ⟨rfl, rfl, rfl, rfl, rfl⟩ rfl (pa_cons (pv 0) (pa_cons (pe_callB (call_lenK (K := K) rfl) (by rfl) G.b_len PySem.boot_len (pa_cons (pv 5) pa_nil)) pa_nil))) pa_nil)) pa_nil)))))
      (pss_one (ps_ret (pe_tup (pa_cons (pe_tupleK (K := K) rfl rfl G.b_tuple (pe_lc (own := [("_law_box", 7)]) (by rfl) sc__law_jumbled.nd (pi_listK (K := K) rfl (pv 6)) (blkOk_by (N := ["_law_well_here", "_law_program_here", "_law_many", "_law_boxes", "_law_turn_here", "_law_left", "_law_order", "_law_box"]) (sc := defScope s__law_jumbled) (by decide +kernel)) (fun _ _ _ _ _ => (pg_name (i := 7) sc__law_jumbled.nd rfl (.inl rfl))) (fun _ _ _ _ _ => pts_nil) (fun _ _ _ _ _ => (pe_cal c__law_renumbered hr (by omega) ⟨rfl, rfl, rfl, rfl, rfl⟩ rfl (pa_cons (pe_ix (ix_listK (K := K) rfl) (pv 3) (pv 7) (fun _ _ => rfl)) (pa_cons (pv 6) pa_nil)))))) (pa_cons (pe_cal c__law_renumbered hr (by omega) ⟨rfl, rfl, rfl, rfl, rfl⟩ rfl (pa_cons (pe_ix (ix_tupK (K := K) rfl) (pv 1) pe_int (fun _ _ => rfl)) (pa_cons (pv 6) pa_nil))) pa_nil))))))))), fun xs M Q h => ?_⟩
  obtain ⟨p, bs, t, rfl, hp, hok, q⟩ := h
  have hfew := hok.few
  unfold encP
  walk_at "d"
  refine ⟨p, 3, rfl, hp, by decide, by decide, fun M1 m hm h1 w1 => ?_⟩
  walk_at "d"
  refine rl_listT fun r nr => ?_
  have hrp := new_ne w1.some nr
  have nrM := none_b h1 hrp nr
  have h2 : MEx M1 (mupd M1 r (.lst (bs.map Tm.enc))) := .new nr
  have hr2 : mupd M1 r (.lst (bs.map Tm.enc)) r = some (.lst (bs.map Tm.enc)) := mupd_same
  generalize mupd M1 r (.lst (bs.map Tm.enc)) = M2 at h2 hr2
  have w2 := well_up w1 h2
  have mx2 := h1.trans h2.b
  walk_at "d"
  refine wg_tup rfl (wgs_cons (wg_name (wgs_cons (wg_name (wgs_nil ?_)))))
  refine ws_seq (ws_forR m (fun i ds' M' => ∃ (vs : List Tm) (a : Option Dv), ds' = [some (.adr p), some (.tup [.tup (bs.map Tm.enc), t.enc]), some (.int (m : Int)), some (.adr r), a, none, none, none] ∧ vs.length = i ∧ (∀ b ∈ vs, ValOk (bs.length + m) 1 b) ∧ M' r = some (.lst ((bs ++ vs).map Tm.enc)) ∧ Well M' p ∧ MExB p M M') ?_ ?_ ?_)
  · walk_at "d"
    exact ⟨rfl, by omega, [], none, rfl, rfl, fun b hb => (by cases hb), by rw [List.append_nil]; exact hr2, w2, mx2⟩
  · rintro i ds' M3 hi ⟨vs, a, rfl, hvl, hvs, hr3, w3, mx3⟩
    walk_at "d"
    refine we_append (we_var rfl ⟨r, rfl, ⟨_, hr3⟩, ?_⟩)
    walk_at "d"
    refine rl_lenT ?_
    walk_at "d"
    rw [List.length_map]
    have e1 : ((bs.length : Int) + (m : Int)) = ((bs.length + m : Nat) : Int) := by omega
    rw [e1]
    refine ⟨p, bs.length + m, 1, rfl, w3, by omega, by decide, fun M4 u hu h4 w4 => ?_⟩
    refine ⟨_, h4 _ _ hrp hr3, by simp; omega, ?_⟩
    refine ⟨vs ++ [u], _, rfl, by simp [hvl], fun b hb => ?_, by rw [mupd_same, ← List.append_assoc, List.map_append (l₁ := bs ++ vs)]; rfl, w4.put hrp, (mx3.trans h4).keep nrM fun a o _ n e => by rw [mupd_ne n]; exact e⟩
    rcases List.mem_append.mp hb with hb | hb
    · exact hvs b hb
    · rw [List.mem_singleton.mp hb]
      exact hu
  rintro ds' M3 ⟨vs, a, rfl, hvl, hvs, hr3, w3, mx3⟩
  obtain ⟨B, hB⟩ : ∃ B, B = bs ++ vs := ⟨_, rfl⟩
  have hBl : B.length = bs.length + m := by rw [hB, List.length_append, hvl]
  have hBok : ∀ b ∈ B, b.wf B.length 0 = true ∧ b.isVal = true ∧ b.len ≤ 143 ∧ b.dep ≤ 14 := fun b hb => by
    rw [hBl]
    rw [hB] at hb
    rcases List.mem_append.mp hb with hb | hb
    · have h := hok.bx b hb
      have h3 := h.len
      have h4 := h.dep
      exact ⟨wf_up (by omega) b (Nat.le_refl 0) h.wf, h.val, by omega, by omega⟩
    · have h := hvs b hb
      have h3 := h.len
      have h4 := h.dep
      exact ⟨h.wf, h.val, by omega, by omega⟩
  rw [← hB] at hr3
  have htw : t.wf B.length 0 = true := wf_up (by omega) t (Nat.le_refl 0) hok.wf
  walk_at "d"
  refine we_listRg ?_
  walk_at "d"
  refine rl_lenL hr3 ?_
  rw [List.length_map]
  refine ⟨B.length, rfl, by omega, fun l nl => ?_⟩
  have hlp := new_ne w3.some nl
  have hlr := new_ne ⟨_, hr3⟩ nl
  have nlM := none_b mx3 hlp nl
  have h4 : MEx M3 (mupd M3 l (.lst ((List.range B.length).map natD))) := .new nl
  have hl4 : mupd M3 l (.lst ((List.range B.length).map natD)) l = some (.lst ((List.range B.length).map natD)) := mupd_same
  generalize mupd M3 l (.lst ((List.range B.length).map natD)) = M4 at h4 hl4
  have w4 := well_up w3 h4
  have hr4 := h4 _ _ hr3
  have mx4 := mx3.trans h4.b
  walk_at "d"
  intro o no
  have hop := new_ne w4.some no
  have hor := new_ne ⟨_, hr4⟩ no
  have hol := new_ne ⟨_, hl4⟩ no
  have noM := none_b mx4 hop no
  have h5 : MEx M4 (mupd M4 o (.lst [])) := .new no
  have ho5 : mupd M4 o (.lst []) o = some (.lst []) := mupd_same
  generalize mupd M4 o (.lst []) = M5 at h5 ho5
  have w5 := well_up w4 h5
  have hr5 := h5 _ _ hr4
  have hl5 := h5 _ _ hl4
  have mx5 := mx4.trans h5.b
  walk_at "d"
  refine wg_tup rfl (wgs_cons (wg_name (wgs_cons (wg_name (wgs_nil ?_)))))
  refine ws_seq (ws_forR B.length (fun i ds' M' => ∃ (O L : List Nat) (a : Option Dv), ds' = [some (.adr p), some (.tup [.tup (bs.map Tm.enc), t.enc]), some (.int (m : Int)), some (.adr r), a, some (.adr l), some (.adr o), none] ∧ O.length = i ∧ (O ++ L).Perm (List.range B.length) ∧ M' r = some (.lst (B.map Tm.enc)) ∧ M' l = some (.lst (L.map natD)) ∧ M' o = some (.lst (O.map natD)) ∧ Well M' p ∧ MExB p M M') ?_ ?_ ?_)
  · walk_at "d"
    refine rl_lenL hr5 ?_
    walk_at "d"
    exact ⟨by rw [List.length_map], by omega, [], List.range B.length, _, rfl, rfl, List.Perm.refl _, hr5, hl5, ho5, w5, mx5⟩
  · rintro i ds' M6 hi ⟨O, L, a, rfl, hOl, hperm, hr6, hl6, ho6, w6, mx6⟩
    have hLl : O.length + L.length = B.length := by have := hperm.length_eq; rwa [List.length_append, List.length_range] at this
    walk_at "d"
    refine we_append (we_var rfl ⟨o, rfl, ⟨_, ho6⟩, ?_⟩)
    refine we_popAt (we_var rfl ⟨l, rfl, ⟨_, hl6⟩, ?_⟩)
    walk_at "d"
    refine rl_lenL hl6 ?_
    walk_at "d"
    rw [List.length_map]
    refine ⟨p, L.length, rfl, w6, by omega, by omega, fun M7 k hk h7 w7 => ?_⟩
    have ek : L[k]? = some L[k] := List.getElem?_eq_getElem hk
    have hl7 := h7 _ _ hlp hl6
    have ho7 := h7 _ _ hop ho6
    have hr7 := h7 _ _ hrp hr6
    refine ⟨k, _, natD L[k], rfl, hl7, by omega, by rw [List.getElem?_map, ek]; rfl, ?_⟩
    refine ⟨O.map natD, by rw [mupd_ne hol]; exact ho7, by rw [List.length_map]; omega, ?_⟩
    walk_at "d"
    refine ⟨O ++ [L[k]], L.eraseIdx k, _, rfl, by simp [hOl], ?_, ?_, ?_, ?_, (w7.put hlp).put hop, ?_⟩
    · refine List.Perm.trans ?_ hperm
      rw [List.append_assoc]
      exact List.Perm.append_left O (perm_ex L k hk)
    · rw [mupd_ne (Ne.symm hor), mupd_ne (Ne.symm hlr)]
      exact hr7
    · rw [mupd_ne (Ne.symm hol), mupd_same, erase_map]
    · rw [mupd_same, List.map_append]
      rfl
    · have k1 : MExB p M (mupd M7 l (.lst ((L.map natD).eraseIdx k))) := (mx6.trans h7).keep nlM fun a o _ n e => by rw [mupd_ne n]; exact e
      exact k1.keep noM fun a o _ n e => by rw [mupd_ne n]; exact e
  rintro ds' M6 ⟨O, L, a, rfl, hOl, hperm, hr6, hl6, ho6, w6, mx6⟩
  have hL : L = [] := by
    have := hperm.length_eq
    rw [List.length_append, List.length_range] at this
    exact List.length_eq_zero_iff.mp (by omega)
  rw [hL, List.append_nil] at hperm
  have hgd := jum_gd hperm hBok (by omega) htw hok.len hok.dep
  have hmem : ∀ k, k ∈ O ↔ k < B.length := fun k => by rw [hperm.mem_iff, List.mem_range]
  walk_at "d"
  refine we_lcV O natD (fun k => ((bx B k).renum O).enc) rfl ?_ (by omega) ?_ ?_
  · walk_at "d"
    exact ⟨ho6, .refl⟩
  · intro k hk M7 h7
    obtain ⟨eb, hbm⟩ := bx_mem ((hmem k).mp hk)
    obtain ⟨g1, g2, g3, g4⟩ := hBok _ hbm
    unfold natD
    walk_at "d"
    refine rv_ixL (h7 _ _ hr6) (atI_nat (by rw [List.getElem?_map, eb]; rfl)) ?_
    walk_at "d"
    exact ⟨bx B k, o, O, rfl, h7 _ _ ho6, fun j hj => (hmem j).mpr (wf_has _ g1 hj), by omega, fun M8 h8 => ⟨h8, rfl⟩⟩
  · intro v M7 h7 hv
    refine ru_tupL hv ?_
    walk_at "d"
    have htd := hok.dep
    refine ⟨t, o, O, rfl, h7 _ _ ho6, fun j hj => (hmem j).mpr (wf_has _ htw hj), by omega, fun M8 h8 => ?_⟩
    walk_at "d"
    have q' := q M8 _ _ hgd ((mx6.trans h7.b).trans h8.b) (well_up w6 (h7.trans h8))
    unfold encP at q'
    rw [List.map_map] at q'
    exact q'
end
end FS
set_option maxHeartbeats 4000000
/-! _law_well of a list that is tracked. -/
namespace FS
open PySem PySem.Spec PyProof.Rows L2
local macro_rules | `(tactic| walk_at "t") => `(tactic| exact use_hole (by assumption))
local macro_rules | `(tactic| walk_at "t") => `(tactic| exact use_at (by assumption))
local macro_rules | `(tactic| walk_at "t") => `(tactic| exact use_name (by assumption))
local macro_rules | `(tactic| walk_at "t") => `(tactic| exact use_num (by assumption))
local macro_rules | `(tactic| walk_at "t") => `(tactic| exact leaf_leaves (by assumption))
local macro_rules | `(tactic| walk_at "t") => `(tactic| exact use_leaves (by assumption))
local macro_rules | `(tactic| walk_at "t") => `(tactic| assumption)
local macro_rules | `(tactic| walk_at "t") => `(tactic| decide +kernel)
local macro_rules | `(tactic| walk_at "t") => `(tactic| rfl)
local macro_rules | `(tactic| walk_at "d1") => `(tactic| (with_reducible refine ⟨_, _, _, rfl, ?_⟩))
local macro_rules | `(tactic| walk_at "d1") => `(tactic| (with_reducible refine ⟨_, _, rfl, ?_⟩))
local macro_rules | `(tactic| walk_at "d1") => `(tactic| ((with_reducible refine rv_fdiv ?h1 ?_); (case h1 => exact ⟨by decide, by decide⟩)))
local macro_rules | `(tactic| walk_at "d1") => `(tactic| ((with_reducible refine rv_mod ?h1 ?_); (case h1 => (show (0 : Int) < _; decide))))
local macro_rules | `(tactic| walk_at "d1") => `(tactic| (with_reducible refine we_call (dxs := [.int 0]) (fun H => .cons (.int 0) .nil) ?_))
local macro_rules | `(tactic| walk_at "d1") => `(tactic| ((with_reducible refine' we_c ?h1 ?_); (case h1 => assumption)))
local macro_rules | `(tactic| walk_at "d1") => `(tactic| (with_reducible refine wt_yes ?_))
local macro_rules | `(tactic| walk_at "d1") => `(tactic| (with_reducible refine wg_name ?_))
local macro_rules | `(tactic| walk_at "d1") => `(tactic| (with_reducible refine rv_ix3 ?_))
local macro_rules | `(tactic| walk_at "d1") => `(tactic| (with_reducible refine rv_ix2 ?_))
local macro_rules | `(tactic| walk_at "d1") => `(tactic| (with_reducible refine rv_notN ?_))
local macro_rules | `(tactic| walk_at "d1") => `(tactic| (with_reducible refine rv_isN ?_))
local macro_rules | `(tactic| walk_at "d1") => `(tactic| (with_reducible refine rv_neS ?_))
local macro_rules | `(tactic| walk_at "d1") => `(tactic| (with_reducible refine rv_ge ?_))
local macro_rules | `(tactic| walk_at "d1") => `(tactic| (with_reducible refine rv_gt ?_))
local macro_rules | `(tactic| walk_at "d1") => `(tactic| (with_reducible refine rv_le ?_))
local macro_rules | `(tactic| walk_at "d1") => `(tactic| (with_reducible refine rv_sub ?_))
local macro_rules | `(tactic| walk_at "d1") => `(tactic| (with_reducible refine wo_some ?_))
local macro_rules | `(tactic| walk_at "d1") => `(tactic| (with_reducible refine wo_none ?_))
local macro_rules | `(tactic| walk_at "d1") => `(tactic| (with_reducible refine we_then ?_))
local macro_rules | `(tactic| walk_at "d1") => `(tactic| (with_reducible refine we_un ?_))
local macro_rules | `(tactic| walk_at "d1") => `(tactic| (with_reducible refine we_chain ?_))
local macro_rules | `(tactic| walk_at "d1") => `(tactic| (with_reducible refine we_if ?_))
local macro_rules | `(tactic| walk_at "d1") => `(tactic| (with_reducible refine we_not ?_))
local macro_rules | `(tactic| walk_at "d1") => `(tactic| (with_reducible refine we_or ?_))
local macro_rules | `(tactic| walk_at "d1") => `(tactic| (with_reducible refine we_and ?_))
local macro_rules | `(tactic| walk_at "d1") => `(tactic| (with_reducible refine wt_not ?_))
local macro_rules | `(tactic| walk_at "d1") => `(tactic| (with_reducible refine wt_B ?_))
local macro_rules | `(tactic| walk_at "d1") => `(tactic| (with_reducible refine we_slT ?_))
local macro_rules | `(tactic| walk_at "d1") => `(tactic| (with_reducible refine we_lst ?_))
local macro_rules | `(tactic| walk_at "d1") => `(tactic| (with_reducible refine we_ty ?_))
local macro_rules | `(tactic| walk_at "d1") => `(tactic| (with_reducible refine we_non ?_))
local macro_rules | `(tactic| walk_at "d1") => `(tactic| (with_reducible refine we_bl ?_))
local macro_rules | `(tactic| walk_at "d1") => `(tactic| (with_reducible refine ws_asg ?_))
local macro_rules | `(tactic| walk_at "d1") => `(tactic| (with_reducible refine ws_par3 ?_))
local macro_rules | `(tactic| walk_at "d1") => `(tactic| (with_reducible refine ws_par ?_))
local macro_rules | `(tactic| walk_at "d1") => `(tactic| (with_reducible refine ws_drop ?_))
local macro_rules | `(tactic| walk_at "d1") => `(tactic| (with_reducible refine ru_neg ?_))
local macro_rules | `(tactic| walk_at "d1") => `(tactic| (with_reducible refine rl_isi_bb ?_))
local macro_rules | `(tactic| walk_at "d1") => `(tactic| (with_reducible refine rl_isi_bt ?_))
local macro_rules | `(tactic| walk_at "d1") => `(tactic| (with_reducible refine rl_isi_sb ?_))
local macro_rules | `(tactic| walk_at "d1") => `(tactic| (with_reducible refine rl_isi_st ?_))
local macro_rules | `(tactic| walk_at "d1") => `(tactic| (with_reducible refine rl_isi_is ?_))
local macro_rules | `(tactic| walk_at "d1") => `(tactic| (with_reducible refine rl_isi_it ?_))
local macro_rules | `(tactic| walk_at "d1") => `(tactic| (with_reducible refine rl_isi_ib ?_))
local macro_rules | `(tactic| walk_at "d1") => `(tactic| (with_reducible refine rl_isi_ii ?_))
local macro_rules | `(tactic| walk_at "d1") => `(tactic| (with_reducible refine rl_isi_ss ?_))
local macro_rules | `(tactic| walk_at "d1") => `(tactic| (with_reducible refine rl_isi_tt ?_))
local macro_rules | `(tactic| walk_at "d1") => `(tactic| (with_reducible refine rl_abs ?_))
local macro_rules | `(tactic| walk_at "d1") => `(tactic| (with_reducible refine rl_int ?_))
local macro_rules | `(tactic| walk_at "d1") => `(tactic| (with_reducible refine wt_or ?_))
local macro_rules | `(tactic| walk_at "d1") => `(tactic| (with_reducible refine rv_lt ?_))
local macro_rules | `(tactic| walk_at "d1") => `(tactic| (with_reducible refine rv_add ?_))
local macro_rules | `(tactic| walk_at "d1") => `(tactic| (with_reducible refine we_cb ?_))
local macro_rules | `(tactic| walk_at "d1") => `(tactic| (with_reducible refine ws_set ?_))
local macro_rules | `(tactic| walk_at "d1") => `(tactic| (with_reducible refine rv_ix1 ?_))
local macro_rules | `(tactic| walk_at "d1") => `(tactic| (with_reducible refine wt_and ?_))
local macro_rules | `(tactic| walk_at "d1") => `(tactic| (with_reducible refine we_call0 ?_))
local macro_rules | `(tactic| walk_at "d1") => `(tactic| ((with_reducible refine br_t ?h1 ?_); (case h1 => walk_at "t")))
local macro_rules | `(tactic| walk_at "d1") => `(tactic| ((with_reducible refine rv_inT ?a1 ?a2 ?_); (case a1 => rfl); (case a2 => first | rfl | decide +kernel)))
local macro_rules | `(tactic| walk_at "d1") => `(tactic| ((with_reducible refine len_and ?h1 ?_); (case h1 => first | decide | (simp; done) | (simp; omega))))
local macro_rules | `(tactic| walk_at "d1") => `(tactic| ((with_reducible refine br_f ?h1 ?_); (case h1 => walk_at "t")))
local macro_rules | `(tactic| walk_at "d1") => `(tactic| (with_reducible refine ⟨_, rfl, ?_⟩))
local macro_rules | `(tactic| walk_at "d1") => `(tactic| (with_reducible refine ws_ret ?_))
local macro_rules | `(tactic| walk_at "d1") => `(tactic| (with_reducible refine rv_eqS ?_))
local macro_rules | `(tactic| walk_at "d1") => `(tactic| (with_reducible refine we_tup ?_))
local macro_rules | `(tactic| walk_at "d1") => `(tactic| (with_reducible refine rv_ix0 ?_))
local macro_rules | `(tactic| walk_at "d1") => `(tactic| (with_reducible refine ws_next ?_))
local macro_rules | `(tactic| walk_at "d1") => `(tactic| (with_reducible refine ws_if ?_))
local macro_rules | `(tactic| walk_at "d1") => `(tactic| (with_reducible refine wt_test ?_))
local macro_rules | `(tactic| walk_at "d1") => `(tactic| (with_reducible refine ws_seq ?_))
local macro_rules | `(tactic| walk_at "d1") => `(tactic| (with_reducible refine wa_nil ?_))
local macro_rules | `(tactic| walk_at "d1") => `(tactic| (with_reducible refine we_int ?_))
local macro_rules | `(tactic| walk_at "d1") => `(tactic| (with_reducible refine we_str ?_))
local macro_rules | `(tactic| walk_at "d1") => `(tactic| (with_reducible refine we_op ?_))
local macro_rules | `(tactic| walk_at "d1") => `(tactic| ((with_reducible refine' we_var ?h1 ?_); (case h1 => exact rfl)))
local macro_rules | `(tactic| walk_at "d1") => `(tactic| (with_reducible refine wa_cons ?_))
local macro_rules | `(tactic| walk_at "d") => `(tactic| repeat (walk_at "d1"))
section
variable {K : PySem.W.Frag} {ds : EnvD} {M : Mm} {Q : Dv → Mm → Prop} {te : TE}
/-- xs[lo:hi] of a tracked list -/
theorem we_slA {tl th : TO} (h : WE K te ds M fun x M1 => ∃ (p : Addr) (xs : List Dv), x = .adr p ∧ WO K tl ds M1 fun lo M2 => WO K th ds M2 fun hi M3 => M3 p = some (.lst xs) ∧ ∀ q, M3 q = none → Q (.adr q) (mupd M3 q (.lst (cutD xs lo hi)))) : WE K (tSl (rSlL K) te tl th) ds M Q := ⟨fun σ H hE hM R k =>
  h.run σ H hE hM _ fun v H1 x M1 e1 m1 a1 q1 => by
    obtain ⟨p, xs, rfl, q1⟩ := q1
    refine q1.run σ H1 (hE.mono e1) m1 _ fun lo H2 M2 e2 m2 q2 => q2.run σ H2 (hE.mono (e1.trans e2)) m2 _ fun hi H3 M3 e3 m3 q3 => ?_
    obtain ⟨hp, q3⟩ := q3
    cases a1
    obtain ⟨ws, h1, h2⟩ := m3 p _ hp
    refine ⟨_, _, rfl, SqL.of h1, fun q hq => ?_⟩
    have e4 : ETx K H3 (upd H3 q (.lst (cutV ws lo hi))) := .new hq
    exact k _ _ _ _ (((e1.trans e2).trans e3).trans e4) (m3.put e4 (.ofL upd_same ((cut_rel h2).mono e4))) (.adr q) (q3 q (m3.none hq))⟩
end
def T_wellA : SpD := fun xs M Q => ∃ (ns : List Int) (a : Addr), xs = [.adr a, .int 0] ∧ M a = some (.lst (ns.map .int)) ∧ ns.length ≤ 1000000 ∧ ∀ M' p, MEx M M' → Well M' p → Q (.adr p) M'
section
variable {P : Program} {w : World} {K : PySem.W.Frag} {mg : Str → Option Value} {base : Heap}
def T_wellB : SpD := fun xs M Q => T_well xs M Q ∨ T_wellA xs M Q
theorem cal__law_wellB (G : Glb K mg) : Cal P w K mg base 1 "_law_well" T_wellB [] := by
  refine cal_mk (ps := ["_law_script", "_law_turn_here"]) G.d__law_well (fun _ _ _ _ _ _ us hl => match us, hl with | [_, _], _ => rfl) sc__law_well (fun xs M Q h => by rcases h with ⟨p, rfl, _⟩ | ⟨p, a, rfl, _⟩ <;> rfl) fun f cdv A outer s H E hr => ⟨_, (pss_cons (ps_set (i := 2) sc__law_well.nd rfl (.inl rfl) (pe_op op_add pe_int (pe_op op_mul pe_int (pv 1))))
      (pss_cons (ps_for PassesOwn.never rfl (pi_listK (K := K) rfl (pe_slice (sl_listK (K := K) rfl) (pv 0) po_none (po_some pe_int))) (pg_name (i := 3) sc__law_well.nd rfl (.inl rfl))
        (pss_one (ps_set (i := 2) sc__law_well.nd rfl (.inl rfl) (pe_op op_mod (pe_callTy call_int1 (by rfl) G.b_int (by decide +kernel) (pa_cons (pe_op op_add (pe_op op_add (pe_op op_mul (pv 2) pe_int) (pe_op op_mod (pe_callTy call_int1 (by rfl) G.b_int (by decide +kernel) (pa_cons (pv 3) pa_nil)) pe_int)) pe_int) pa_nil)) pe_int))))
      (pss_cons (ps_set (i := 4) sc__law_well.nd rfl (.inl rfl) (pe_ifExp (pt_cmpR op_lt (pv 1) (pe_callB (call_lenK (K := K) rfl) (by rfl) G.b_len PySem.boot_len (pa_cons (pv 0) pa_nil)) (nomark _)) (pe_callTy call_int1 (by rfl) G.b_int (by decide +kernel) (pa_cons (pe_ix (ix_listK (K := K) rfl) (pv 0) (pv 1) (fun _ _ => rfl)) pa_nil)) pe_int))
      (pss_cons (ps_set (i := 2) sc__law_well.nd rfl (.inl rfl) (pe_op op_mod (pe_callTy call_int1 (by rfl) G.b_int (by decide +kernel) (pa_cons (pe_op op_add (pe_op op_add (pe_op op_mul (pv 2) pe_int) (pe_op op_mul (pe_op op_mod (pe_callTy call_int1 (by rfl) G.b_int (by decide +kernel) (pa_cons (pv 4) pa_nil)) pe_int) pe_int)) pe_int) pa_nil)) pe_int))
      (pss_one (ps_ret (pe_lst (pa_cons (pe_ifExp (PW.pt (pw_or (pt_cmpR op_lt (pv 4) pe_int (nomark _)) (pw_or1 (pt_cmpR op_ge (pv 4) (pe_op op_pow pe_int pe_int) (nomark _))))) (pe_callB call_abs (by rfl) G.b_abs (by decide +kernel) (pa_cons (pv 4) pa_nil)) pe_int) (pa_cons (pv 2) (pa_cons pe_int pa_nil)))))))))), fun xs M Q h => ?_⟩
  rcases h with h | h
  · obtain ⟨ns, rfl, hl, q⟩ := h
    walk_at "d"
    refine rv_mul (.inl ⟨by decide, by decide⟩) ?_
    walk_at "d"
    refine ws_for (wi_lst (we_slF (we_var rfl ⟨ns, rfl, ?_⟩)))
    walk_at "d"
    intro z nz
    have ecut : cutD (ns.map .int) none (some 7) = (ns.take 7).map .int := by
      have := cut_to (ns.map .int) 7
      rw [List.map_take]
      exact this
    rw [ecut]
    have mx0 : MEx M (mupd M z (.lst ((ns.take 7).map .int))) := .new nz
    have hz : mupd M z (.lst ((ns.take 7).map .int)) z = some (.lst ((ns.take 7).map .int)) := mupd_same
    generalize mupd M z (.lst ((ns.take 7).map .int)) = M1 at mx0 hz
    refine ⟨z, _, rfl, hz, _, yl_lst, MEx, fun i ds' M' => MEx M1 M' ∧ ∃ (v : Nat) (a b : Option Dv), ds' = [some (.frl ns), some (.int 0), some (.int (v : Int)), a, b], keeps_lstX, fun i ds' M' h => h.1, ⟨.refl, 2718281, none, none, rfl⟩, fun i x ds' M' hx h => ?_, fun ds' M' h => ?_⟩
    · obtain ⟨mx, v, a, b, rfl⟩ := h
      rw [List.getElem?_map] at hx
      obtain ⟨n, hn, rfl⟩ : ∃ n, (ns.take 7)[i]? = some n ∧ x = .int n := by
        cases e : (ns.take 7)[i]? with
        | none =>
          rw [e] at hx
          cases hx
        | some n =>
          rw [e] at hx
          cases hx
          exact ⟨n, rfl, rfl⟩
      walk_at "d"
      refine rv_mul (.inr ⟨by decide, by decide⟩) ?_
      walk_at "d"
      have h1 := Int.emod_nonneg ((v : Int) * 51787 + n % 2147483549 + 11) (show (2147483579 : Int) ≠ 0 by omega)
      generalize ((v : Int) * 51787 + n % 2147483549 + 11) % 2147483579 = u at h1
      obtain ⟨u, rfl⟩ : ∃ u' : Nat, u = (u' : Int) := ⟨u.toNat, by omega⟩
      exact ⟨mx, u, _, _, rfl⟩
    · obtain ⟨mx, v, a, b, rfl⟩ := h
      walk_at "d"
      refine rl_lenF ?_
      have hown : ∀ own : Int, -(2147483549 : Int) < own % 2147483549 ∧ own % 2147483549 < 2147483549 := fun own => by
        have h1 := Int.emod_nonneg own (show (2147483549 : Int) ≠ 0 by omega)
        have h2 := Int.emod_lt_of_pos own (show (0 : Int) < 2147483549 by omega)
        omega
      have fin : ∀ (x : Int) (u : Nat) r, 0 ≤ x → M' r = none → Q (.adr r) (mupd M' r (.lst [.int x, .int (u : Int), .int 0])) := fun x u r hx nr => by
        refine q _ r ((mx0.trans mx).trans (.new nr)) ⟨x.toNat, u, 0, ?_⟩
        rw [mupd_same]
        have e : ((x.toNat : Nat) : Int) = x := by omega
        rw [e]
        rfl
      cases ns with
      | nil =>
        walk_at "d"
        refine rv_mul (.inr ⟨by decide, by decide⟩) ?_
        walk_at "d"
        refine rv_mul (.inr ⟨by decide, by decide⟩) ?_
        walk_at "d"
        have h1 := Int.emod_nonneg ((v : Int) * 39119 + (0 : Int) % 2147483549 * 27011 + 3) (show (2147483579 : Int) ≠ 0 by omega)
        generalize ((v : Int) * 39119 + (0 : Int) % 2147483549 * 27011 + 3) % 2147483579 = u at h1
        obtain ⟨u, rfl⟩ : ∃ u' : Nat, u = (u' : Int) := ⟨u.toNat, by omega⟩
        walk_at "d"
        refine rv_pow cpow14 ?_
        rw [pow14]
        walk_at "d"
        exact fun r nr => fin 0 u r (by decide) nr
      | cons n ns =>
        have hn := hown n
        walk_at "d"
        refine br_t (decide_eq_true (by simp <;> omega)) ?_
        walk_at "d"
        refine rv_ixF (m := n) atI_0 ?_
        walk_at "d"
        refine rv_mul (.inr ⟨by decide, by decide⟩) ?_
        walk_at "d"
        refine rv_mul (.inr ⟨by decide, by decide⟩) ?_
        walk_at "d"
        have h1 := Int.emod_nonneg ((v : Int) * 39119 + n % 2147483549 * 27011 + 3) (show (2147483579 : Int) ≠ 0 by omega)
        generalize ((v : Int) * 39119 + n % 2147483549 * 27011 + 3) % 2147483579 = u at h1
        obtain ⟨u, rfl⟩ : ∃ u' : Nat, u = (u' : Int) := ⟨u.toNat, by omega⟩
        refine ⟨fun e => ⟨fun _ => ?_, fun e => (by cases e)⟩, fun e => ?_⟩
        · walk_at "d"
          exact fun r nr => fin _ u r (by split <;> omega) nr
        walk_at "d"
        refine rv_pow cpow14 ?_
        rw [pow14]
        walk_at "d"
        refine ⟨fun e => ?_, fun e => ?_⟩
        · walk_at "d"
          exact fun r nr => fin _ u r (by split <;> omega) nr
        · walk_at "d"
          exact fun r nr => fin 0 u r (by decide) nr
  · obtain ⟨ns, a, rfl, hMa, hl, q⟩ := h
    walk_at "d"
    refine rv_mul (.inl ⟨by decide, by decide⟩) ?_
    walk_at "d"
    refine ws_for (wi_lst (we_slA (we_var rfl ⟨a, ns.map .int, rfl, ?_⟩)))
    walk_at "d"
    refine ⟨hMa, ?_⟩
    intro z nz
    have ecut : cutD (ns.map .int) none (some 7) = (ns.take 7).map .int := by
      have := cut_to (ns.map .int) 7
      rw [List.map_take]
      exact this
    rw [ecut]
    have mx0 : MEx M (mupd M z (.lst ((ns.take 7).map .int))) := .new nz
    have hz : mupd M z (.lst ((ns.take 7).map .int)) z = some (.lst ((ns.take 7).map .int)) := mupd_same
    generalize mupd M z (.lst ((ns.take 7).map .int)) = M1 at mx0 hz
    have hMa1 := mx0 _ _ hMa
    refine ⟨z, _, rfl, hz, _, yl_lst, MEx, fun i ds' M' => MEx M1 M' ∧ ∃ (v : Nat) (e1 e2 : Option Dv), ds' = [some (.adr a), some (.int 0), some (.int (v : Int)), e1, e2], keeps_lstX, fun i ds' M' h => h.1, ⟨.refl, 2718281, none, none, rfl⟩, fun i x ds' M' hx h => ?_, fun ds' M' h => ?_⟩
    · obtain ⟨mx, v, e1, e2, rfl⟩ := h
      rw [List.getElem?_map] at hx
      obtain ⟨n, hn, rfl⟩ : ∃ n, (ns.take 7)[i]? = some n ∧ x = .int n := by
        cases e : (ns.take 7)[i]? with
        | none =>
          rw [e] at hx
          cases hx
        | some n =>
          rw [e] at hx
          cases hx
          exact ⟨n, rfl, rfl⟩
      walk_at "d"
      refine rv_mul (.inr ⟨by decide, by decide⟩) ?_
      walk_at "d"
      have h1 := Int.emod_nonneg ((v : Int) * 51787 + n % 2147483549 + 11) (show (2147483579 : Int) ≠ 0 by omega)
      generalize ((v : Int) * 51787 + n % 2147483549 + 11) % 2147483579 = u at h1
      obtain ⟨u, rfl⟩ : ∃ u' : Nat, u = (u' : Int) := ⟨u.toNat, by omega⟩
      exact ⟨mx, u, _, _, rfl⟩
    · obtain ⟨mx, v, e1, e2, rfl⟩ := h
      walk_at "d"
      refine rl_lenL (mx _ _ hMa1) ?_
      rw [List.length_map]
      have hown : ∀ own : Int, -(2147483549 : Int) < own % 2147483549 ∧ own % 2147483549 < 2147483549 := fun own => by
        have h1 := Int.emod_nonneg own (show (2147483549 : Int) ≠ 0 by omega)
        have h2 := Int.emod_lt_of_pos own (show (0 : Int) < 2147483549 by omega)
        omega
      have fin : ∀ (x : Int) (u : Nat) r, 0 ≤ x → M' r = none → Q (.adr r) (mupd M' r (.lst [.int x, .int (u : Int), .int 0])) := fun x u r hx nr => by
        refine q _ r ((mx0.trans mx).trans (.new nr)) ⟨x.toNat, u, 0, ?_⟩
        rw [mupd_same]
        have e : ((x.toNat : Nat) : Int) = x := by omega
        rw [e]
        rfl
      cases ns with
      | nil =>
        walk_at "d"
        refine rv_mul (.inr ⟨by decide, by decide⟩) ?_
        walk_at "d"
        refine rv_mul (.inr ⟨by decide, by decide⟩) ?_
        walk_at "d"
        have h1 := Int.emod_nonneg ((v : Int) * 39119 + (0 : Int) % 2147483549 * 27011 + 3) (show (2147483579 : Int) ≠ 0 by omega)
        generalize ((v : Int) * 39119 + (0 : Int) % 2147483549 * 27011 + 3) % 2147483579 = u at h1
        obtain ⟨u, rfl⟩ : ∃ u' : Nat, u = (u' : Int) := ⟨u.toNat, by omega⟩
        walk_at "d"
        refine rv_pow cpow14 ?_
        rw [pow14]
        walk_at "d"
        exact fun r nr => fin 0 u r (by decide) nr
      | cons n ns =>
        have hn := hown n
        walk_at "d"
        refine br_t (decide_eq_true (by simp <;> omega)) ?_
        walk_at "d"
        refine rv_ixL (d := .int n) (mx _ _ hMa1) atI_0 ?_
        walk_at "d"
        refine rv_mul (.inr ⟨by decide, by decide⟩) ?_
        walk_at "d"
        refine rv_mul (.inr ⟨by decide, by decide⟩) ?_
        walk_at "d"
        have h1 := Int.emod_nonneg ((v : Int) * 39119 + n % 2147483549 * 27011 + 3) (show (2147483579 : Int) ≠ 0 by omega)
        generalize ((v : Int) * 39119 + n % 2147483549 * 27011 + 3) % 2147483579 = u at h1
        obtain ⟨u, rfl⟩ : ∃ u' : Nat, u = (u' : Int) := ⟨u.toNat, by omega⟩
        refine ⟨fun e => ⟨fun _ => ?_, fun e => (by cases e)⟩, fun e => ?_⟩
        · walk_at "d"
          exact fun r nr => fin _ u r (by split <;> omega) nr
        walk_at "d"
        refine rv_pow cpow14 ?_
        rw [pow14]
        walk_at "d"
        refine ⟨fun e => ?_, fun e => ?_⟩
        · walk_at "d"
          exact fun r nr => fin _ u r (by split <;> omega) nr
        · walk_at "d"
          exact fun r nr => fin 0 u r (by decide) nr
end
end FS
set_option maxHeartbeats 4000000
/-! try: return (True, a()) / except X: return (False,), a a lambda of the law. -/
namespace FS
open PySem PySem.Spec PyProof.Rows L2
open LamX (CodeO GivesTo Tabs ExtN tLam)
section
variable {X : Cx}
def TTried (K : PySem.W.Frag) (CS : Addr) : (XK → Hp → VK → Prop) → Hp → VK → Prop := fun tl H Q =>
  tl (fun cls _ H' => ∃ b, PySem.W.exmOne K cls (.ref CS) = some b ∧ (b = true → 1 ≤ sizeLine ∧ ∀ q, H' q = none → Q (.ref q) (upd H' q (.tup [.bl false]))) ∧ (b = false → False)) H fun v H1 => 2 ≤ sizeLine ∧ ∀ q, H1 q = none → Q (.ref q) (upd H1 q (.tup [.bl true, v]))
theorem tried_gives {Ng : List Str} {x a e q : Str} {sg : Scope} {g CS : Addr} {cdg : Value} {j j2 k1 k2 : Nat} {p0 p1 p2 p3 p4 p5 p6 p7 p8 p9 p10 : Pos} (hge : sg.names.lookup e = some .globalImplicit) (hme : X.mg e = some (.ref CS)) (hde : (e == ("__debug__" : Str)) = false) (h0 : ∀ f : Addr, (L2.start Ng [V.ref f])[0]? = some (some (V.ref f))) :
    GivesTo X Ng x sg g cdg [.Try [.Return (some (.Tuple [.Constant (.bool true) j p0, .Call (.Name a p1) [] [] p2] k1 p9)) p3] [.ExceptHandler (some (.Name e p4)) none [.Return (some (.Tuple [.Constant (.bool false) j2 p5] k2 p10)) p6] p7] [] [] p8] a q (TTried X.K CS) := by
  intro f c' s H Q tl act hc h
  have hgl : Gl (cxOf C8.CX0 X.prog X.w X.K X.mg X.base Ng x sg g cdg X.A X.stack s H C8.E0).nox e := hge
  refine ⟨_, pss_one (ps_try_only (X := (cxOf C8.CX0 X.prog X.w X.K X.mg X.base Ng x sg g cdg X.A X.stack s H C8.E0).nox) (c := .ref CS)
      (tb := fun W D σ H => ∃ Ech : XK, (∀ cls d σ' H', Ech cls d H' → W cls d σ' H') ∧ σ[0]? = some (some (.ref f)) ∧ H c' = some (CodeO c' q) ∧ tl Ech H fun v H1 => 2 ≤ sizeLine ∧ ∀ q, H1 q = none → D.rt (.ref q) (upd H1 q (.tup [.bl true, v])))
      rfl rfl ⟨hgl, hde, .inl hme⟩ LamX.takes0 (fun W pn xe tk _ => ?_) (fun a oe cls d pn _ _ => pss_one (ps_ret (pe_tup (pa_cons pe_bl pa_nil))))), ?_⟩
  · refine ⟨fun pins s' σ H' D I h' => ?_⟩
    obtain ⟨Ech, hW, h1, h2, h3⟩ := h'
    have hp := act W pn xe Ech p1 p2 tk hW
    have hq := pss_one (ps_ret (pos := p3) (pe_tup (x1 := k1) (pos := p9) (pa_cons (pe_bl (j := j) (pos := p0) (b := true)) (pa_cons hp pa_nil))))
    exact hq.run pins s' σ H' D I ⟨h1, h2, h3⟩
  · exact ⟨fun cls _ H' => ∃ b, PySem.W.exmOne X.K cls (.ref CS) = some b ∧ (b = true → 1 ≤ sizeLine ∧ ∀ q, H' q = none → Q (.ref q) (upd H' q (.tup [.bl false]))) ∧ (b = false → False), fun cls d σ' H' ⟨b, e1, e2, e3⟩ => ⟨b, e1, fun hb a _ => e2 hb, fun hb => e3 hb⟩, h0 f, hc, h⟩
end
section
variable {K : PySem.W.Frag} {H H1 H0 : Hp} {M : Mm} {ds : EnvD} {Q : Dv → Mm → Prop} {C : Addr} {S : SpX} {D : DEnds}
theorem etx_lam (e : ExtN H H1) (t : Tabs (lawT K) H1) : ETx K H H1 :=
  ⟨fun _ => t, fun a xs h => h.elim (fun h => .inl (e _ _ h fun _ => HO.noConfusion)) fun ⟨o, h⟩ => .inr ⟨o, e _ _ h fun _ => HO.noConfusion⟩, fun a kvs _ h => e _ _ h fun _ => HO.noConfusion, fun a o u h => e _ _ h fun _ => HO.noConfusion⟩
theorem mat_lam (h : MAt K H M) (e : ExtN H H1) (x : ETx K H H1) : MAt K H1 M := fun a o q => by
  have z := h a o q
  cases o with
  | lst ds =>
    obtain ⟨vs, h1, h2⟩ := z
    exact ⟨vs, e _ _ h1 fun _ => HO.noConfusion, h2.mono x⟩
  | dct kvs =>
    obtain ⟨vs, h1, h2, h3⟩ := z
    exact ⟨vs, e _ _ h1 fun _ => HO.noConfusion, paired_mono (fun a b q => ⟨q.1, q.2.mono x⟩) h2, h3⟩
/-- WE, WA, WT from the heap H0 on -/
structure WEX (K : PySem.W.Frag) (H0 : Hp) (te : TE) (ds : EnvD) (M : Mm) (Q : Dv → Mm → Prop) : Prop where
  run : ∀ σ H, ETx K H0 H → EnvAt K H σ ds → MAt K H M → ∀ R : VK, (∀ v H' d M', ETx K H H' → MAt K H' M' → DAt K H' v d → Q d M' → R v H') → te σ H R
structure WAX (K : PySem.W.Frag) (H0 : Hp) (ta : TA) (ds : EnvD) (M : Mm) (Q : List Dv → Mm → Prop) : Prop where
  run : ∀ σ H, ETx K H0 H → EnvAt K H σ ds → MAt K H M → ∀ R : List V → Hp → Prop, (∀ vs H' es M', ETx K H H' → MAt K H' M' → DAts K H' vs es → Q es M' → R vs H') → ta σ H R
structure WTX (K : PySem.W.Frag) (H0 : Hp) (tt : TT) (ds : EnvD) (M : Mm) (Q : Bool → Mm → Prop) : Prop where
  run : ∀ σ H, ETx K H0 H → EnvAt K H σ ds → MAt K H M → ∀ R : Bool → Hp → Prop, (∀ b H' M', ETx K H H' → MAt K H' M' → Q b M' → R b H') → tt σ H R
theorem wex_lam {args : TA} (h0 : Tabs (lawT K) H0) (hS : PySem.W.exmOne K (.ref C) (.ref C) = some true) (h : WA K args ds M fun xs M1 => S xs M1 (fun d M2 => Q (.tup [.bl true, d]) M2) (fun M2 => Q (.tup [.bl false]) M2)) :
    WEX K H0 (tLam (lawT K) (TTried K C) fun E => tCallS (toSpX K C S) (L2.WE fun cls d _ H => E cls d H) args) ds M Q := ⟨fun σ H e0 hE hM R k => ⟨e0.tab h0, fun H1 eN T1 => by
  have e1 : ETx K H H1 := etx_lam eN T1
  refine h.run σ H1 (hE.mono e1) (mat_lam hM eN e1) _ fun vs H2 xs M2 e2 m2 a2 q2 => ⟨xs, M2, _, _, a2, m2, q2, fun v H' d M' e m a q => ⟨by decide, fun z hz => ?_⟩, fun H' M' e m b => ⟨true, hS, fun _ => ⟨by decide, fun z hz => ?_⟩, fun z => by cases z⟩⟩
  · have e3 : ETx K H' (upd H' z (.tup [.bl true, v])) := .new hz
    exact k _ _ _ M' (((e1.trans e2).trans e).trans e3) (m.grow fun a o w => by rw [upd_ne (ne_of_none w hz)]; exact w) (.tup (SqT.of upd_same) (.cons (.bl true) (.cons (a.mono e3) .nil))) q
  · have e3 : ETx K H' (upd H' z (.tup [.bl false])) := .new hz
    exact k _ _ _ M' (((e1.trans e2).trans e).trans e3) (m.grow fun a o w => by rw [upd_ne (ne_of_none w hz)]; exact w) (.tup (SqT.of upd_same) (.cons (.bl false) .nil)) b⟩⟩
variable {te : TE} {t : TA} {tt : TT} {ts tu : TS} {i : Nat}
theorem wax_cons {QA : List Dv → Mm → Prop} (h : WEX K H0 te ds M fun x M1 => WA K t ds M1 fun xs M2 => QA (x :: xs) M2) : WAX K H0 (tCons te t) ds M QA := ⟨fun σ H e0 hE hM R k =>
  h.run σ H e0 hE hM _ fun v H1 x M1 e1 m1 a1 q1 => q1.run σ H1 (hE.mono e1) m1 _ fun vs H2 xs M2 e2 m2 a2 q2 => k _ H2 _ M2 (e1.trans e2) m2 (.cons (a1.mono e2) a2) q2⟩
theorem wex_call0 {S : SpD} {E : XK} (h : WAX K H0 t ds M fun xs M1 => S xs M1 Q) : WEX K H0 (tCall (toSp K S) [] E t) ds M Q := ⟨fun σ H e0 hE hM R k =>
  h.run σ H e0 hE hM _ fun vs H1 xs M1 e1 m1 a1 q1 => ⟨xs, M1, Q, by rw [List.append_nil]; exact a1, m1, q1, fun v H' d M' e m a q => k v H' d M' (e1.trans e) m a q⟩⟩
theorem wtx_B {QT : Bool → Mm → Prop} (h : WEX K H0 te ds M fun x M1 => ∃ b, x = .bl b ∧ QT b M1) : WTX K H0 (tB te) ds M QT := ⟨fun σ H e0 hE hM R k =>
  h.run σ H e0 hE hM _ fun v H1 x M1 e1 m1 a1 q1 => by
    obtain ⟨b, rfl, q1⟩ := q1
    cases a1
    exact ⟨b, rfl, k b H1 M1 e1 m1 q1⟩⟩
theorem wtx_not {QT : Bool → Mm → Prop} (h : WTX K H0 tt ds M fun b M1 => QT (!b) M1) : WTX K H0 (tNot tt) ds M QT := ⟨fun σ H e0 hE hM R k => h.run σ H e0 hE hM _ fun b H1 M1 e1 m1 q1 => k _ H1 M1 e1 m1 q1⟩
theorem wsx_ifX (h : WTX K H0 tt ds M fun b M1 => (b = true → WSX K H0 ts ds M1 D) ∧ (b = false → WSX K H0 tu ds M1 D)) : WSX K H0 (tIfS tt ts tu) ds M D := ⟨fun σ H e0 hE hM R k =>
  h.run σ H e0 hE hM _ fun b H1 M1 e1 m1 q1 => by
    cases b with
    | true => exact iteT ((q1.1 rfl).run σ H1 (e0.trans e1) (hE.mono e1) m1 R (k.mono e1))
    | false => exact iteF ((q1.2 rfl).run σ H1 (e0.trans e1) (hE.mono e1) m1 R (k.mono e1))⟩
theorem wsx_setX (h : WEX K H0 te ds M fun x M1 => D.nx (ds.set i (some x)) M1) : WSX K H0 (tAsg te (gName i)) ds M D := ⟨fun σ H e0 hE hM R k =>
  h.run σ H e0 hE hM _ fun v H1 x M1 e1 m1 a1 q1 => k.nx _ H1 _ M1 e1 ((hE.mono e1).set a1) m1 q1⟩
end
end FS
set_option maxHeartbeats 4000000
/-! n steps, then m steps: plain. -/
namespace FS
open PySem PySem.Spec PyProof.Rows L2
/-- a run behind another -/
def behind (j : Nat) (ns : List Int) (r : Res) : Res := (r.1 + j, r.2.1, r.2.2.1, ns ++ r.2.2.2)
theorem run_shift (j : Nat) (n0 : List Int) : ∀ (k d : Nat) (bs : List Tm) (t : Tm) (ns : List Int), run k (d + j) bs t (n0 ++ ns) = (run k d bs t ns).map (behind j n0)
  | 0, d, bs, t, ns => rfl
  | k + 1, d, bs, t, ns => by
    simp only [run]
    split
    · split
      · have e : d + j + 1 = d + 1 + j := by omega
        rw [e, List.append_assoc]
        exact run_shift j n0 k (d + 1) _ _ _
      · rfl
    · rfl
theorem run_split : ∀ (n m d : Nat) (bs : List Tm) (t : Tm) (ns : List Int), (run n d bs t ns = none → run (n + m) d bs t ns = none) ∧
    ∀ r, run n d bs t ns = some r → (r.1 = d + n ∧ run (n + m) d bs t ns = run m (d + n) r.2.1 r.2.2.1 r.2.2.2) ∨ (r.1 < d + n ∧ outcome r.2.2.1 ≠ "step" ∧ run (n + m) d bs t ns = some r)
  | 0, m, d, bs, t, ns => by
    refine ⟨fun h => (by cases h), fun r h => ?_⟩
    cases h
    exact .inl ⟨rfl, by rw [Nat.zero_add]; rfl⟩
  | n + 1, m, d, bs, t, ns => by
    have e : n + 1 + m = (n + m) + 1 := by omega
    rw [e]
    simp only [run]
    split
    · split
      · obtain ⟨h1, h2⟩ := run_split n m (d + 1) (nextB bs t) (nextT bs t) (ns ++ (stepP bs t).2.2)
        refine ⟨h1, fun r h => ?_⟩
        have e2 : d + 1 + n = d + (n + 1) := by omega
        rcases h2 r h with ⟨a, b⟩ | ⟨a, b, c⟩
        · exact .inl ⟨by omega, by rw [b, e2]⟩
        · exact .inr ⟨by omega, b, c⟩
      · exact ⟨fun _ => rfl, fun r h => (by cases h)⟩
    · rename_i ho
      refine ⟨fun h => (by cases h), fun r h => ?_⟩
      cases h
      exact .inr ⟨by show d < _; omega, ho, rfl⟩
theorem run_good : ∀ (k d : Nat) (bs : List Tm) (t : Tm) (ns : List Int) (r : Res), Gd bs t → Tid bs t → run k d bs t ns = some r → Gd r.2.1 r.2.2.1 ∧ Tid r.2.1 r.2.2.1 ∧ r.2.2.2.length ≤ ns.length + k ∧ r.1 ≤ d + k
  | 0, d, bs, t, ns, r, hg, ht, h => by
    cases h
    exact ⟨hg, ht, Nat.le_refl _, Nat.le_refl _⟩
  | k + 1, d, bs, t, ns, r, hg, ht, h => by
    simp only [run] at h
    split at h
    · rename_i ho
      split at h
      · rename_i hf
        obtain ⟨h1, h2, h3, h4⟩ := run_good k (d + 1) _ _ _ r (gd_next hg ho hf) (tid_next hg ho) h
        have hs := said_few hg ho
        rw [List.length_append] at h3
        exact ⟨h1, h2, by omega, by omega⟩
      · cases h
    · cases h
      exact ⟨hg, ht, Nat.le_add_right _ _, Nat.le_add_right _ _⟩
theorem run_end {bs : List Tm} {t : Tm} (h : outcome t ≠ "step") (k d : Nat) (ns : List Int) : run k d bs t ns = some (d, bs, t, ns) := by
  cases k with
  | zero => rfl
  | succ k => simp only [run]; rw [if_neg h]
/-- the law's three runs -/
theorem run_law {n m : Nat} {bs : List Tm} {t : Tm} {r : Res} (h : run n 0 bs t [] = some r) : run (n + m) 0 bs t [] = (run m 0 r.2.1 r.2.2.1 []).map (behind r.1 r.2.2.2) := by
  rcases (run_split n m 0 bs t []).2 r h with ⟨a, b⟩ | ⟨a, b, c⟩
  · rw [b]
    have e := run_shift r.1 r.2.2.2 m 0 r.2.1 r.2.2.1 []
    rw [List.append_nil, Nat.zero_add] at e
    rw [a] at e ⊢
    exact e
  · rw [c, run_end b]
    show some r = some _
    congr 1
    simp [behind]
/-- a run that stopped early is the longer run, too -/
theorem run_more {n k : Nat} {bs : List Tm} {t : Tm} {r : Res} (h : run n 0 bs t [] = some r) (hr : r.1 < n) (hk : n ≤ k) : run k 0 bs t [] = some r := by
  obtain ⟨m, rfl⟩ : ∃ m, k = n + m := ⟨k - n, by omega⟩
  rcases (run_split n m 0 bs t []).2 r h with ⟨a, _⟩ | ⟨_, _, c⟩
  · omega
  · exact c
end FS
set_option maxHeartbeats 4000000
/-! go_on(.., steps=..) -/
namespace FS
open PySem PySem.Spec PyProof.Rows L2
section
variable {P : Program} {w : World} {K : PySem.W.Frag} {mg : Str → Option Value} {base : Heap} {C : Addr}
theorem kb_go {f : Addr} {fd : FuncData} (F : FnP K "go_on" s_go_on [] f fd) : KBn K fd ["program", "steps"] 1 ["steps"] (fun us ws => us ++ ws) (fun vs zs => vs ++ zs) := by
  obtain ⟨oc, od, dV, kV, doc, pm, an, cdv, ct, osl, rfl, lk, hcd, hD, hK⟩ := F.ex
  rcases hD with ⟨_, rfl⟩ | ⟨e, _⟩
  · refine ⟨fun s us ws X l1 l2 => ?_, fun r1 r2 => r1.append r2⟩
    match us, ws, l1, l2 with
    | [_], [_], _, _ => exact .of_eq rfl
  · exact absurd rfl e
end
end FS
set_option maxHeartbeats 4000000
/-! What is told is plain data, not too deep. The call with a keyword, over data. -/
namespace FS
open PySem PySem.Spec PyProof.Rows L2
theorem okD_w1 (w : W1) : okD (.str w.s) = true := by cases w <;> decide +kernel
theorem okD_w2 (w : W2) : okD (.str w.s) = true := by cases w <;> decide +kernel
theorem okD_enc : ∀ t : Tm, okD t.enc = true
  | .num n => (by decide +kernel : okD (.str "number") = true) |> fun h => by simp [Tm.enc, okD, okDs] at h ⊢; exact h
  | .name n => (by decide +kernel : okD (.str "name") = true) |> fun h => by simp [Tm.enc, okD, okDs] at h ⊢; exact h
  | .at n => (by decide +kernel : okD (.str "at") = true) |> fun h => by simp [Tm.enc, okD, okDs] at h ⊢; exact h
  | .u1 w a => by have h := okD_w1 w; have h2 := okD_enc a; simp [Tm.enc, okD, okDs] at h ⊢; exact ⟨h, h2⟩
  | .u2 w a b => by have h := okD_w2 w; have h2 := okD_enc a; have h3 := okD_enc b; simp [Tm.enc, okD, okDs] at h ⊢; exact ⟨h, h2, h3⟩
  | .u3 a b c => by
    have h : okD (.str "test") = true := by decide +kernel
    have h2 := okD_enc a; have h3 := okD_enc b; have h4 := okD_enc c; simp [Tm.enc, okD, okDs] at h ⊢; exact ⟨h, h2, h3, h4⟩
theorem sameD_enc : ∀ t : Tm, sameD t.enc = true
  | .num n => rfl
  | .name n => rfl
  | .at n => rfl
  | .u1 w a => by simp [Tm.enc, sameD, sameDs, sameD_enc a]
  | .u2 w a b => by simp [Tm.enc, sameD, sameDs, sameD_enc a, sameD_enc b]
  | .u3 a b c => by simp [Tm.enc, sameD, sameDs, sameD_enc a, sameD_enc b, sameD_enc c]
theorem wideD_enc : ∀ t : Tm, wideD t.enc = true
  | .num n => rfl
  | .name n => rfl
  | .at n => rfl
  | .u1 w a => by simp [Tm.enc, wideD, wideDs, wideD_enc a]
  | .u2 w a b => by simp [Tm.enc, wideD, wideDs, wideD_enc a, wideD_enc b]
  | .u3 a b c => by simp [Tm.enc, wideD, wideDs, wideD_enc a, wideD_enc b, wideD_enc c]
theorem depD_enc : ∀ t : Tm, depD t.enc = t.dep
  | .num n => rfl
  | .name n => rfl
  | .at n => rfl
  | .u1 w a => by simp [Tm.enc, depD, depDs, Tm.dep, depD_enc a]; omega
  | .u2 w a b => by simp [Tm.enc, depD, depDs, Tm.dep, depD_enc a, depD_enc b]; omega
  | .u3 a b c => by simp [Tm.enc, depD, depDs, Tm.dep, depD_enc a, depD_enc b, depD_enc c]; omega
theorem okDs_bs : ∀ bs : List Tm, okDs (bs.map Tm.enc) = true
  | [] => rfl
  | b :: bs => by simp [okDs, okD_enc b, okDs_bs bs]
theorem sameDs_bs : ∀ bs : List Tm, sameDs (bs.map Tm.enc) = true
  | [] => rfl
  | b :: bs => by simp [sameDs, sameD_enc b, sameDs_bs bs]
theorem wideDs_bs : ∀ bs : List Tm, wideDs (bs.map Tm.enc) = true
  | [] => rfl
  | b :: bs => by simp [wideDs, wideD_enc b, wideDs_bs bs]
theorem depDs_bs {n : Nat} : ∀ {bs : List Tm}, (∀ b ∈ bs, b.dep ≤ n) → depDs (bs.map Tm.enc) ≤ n
  | [], _ => Nat.zero_le _
  | b :: bs, h => by
    have h1 := h b (List.mem_cons_self ..)
    have h2 := depDs_bs (bs := bs) fun c hc => h c (List.mem_cons_of_mem _ hc)
    simp [depDs, depD_enc b]
    omega
theorem sameDs_ints : ∀ ns : List Int, sameDs (ns.map .int) = true
  | [] => rfl
  | n :: ns => by simp [sameDs, sameD, sameDs_ints ns]
theorem wideDs_ints : ∀ ns : List Int, wideDs (ns.map .int) = true
  | [] => rfl
  | n :: ns => by simp [wideDs, wideD, wideDs_ints ns]
/-- a told thing -/
structure Told (r : Res) : Prop where
  gd : Gd r.2.1 r.2.2.1
  few : r.2.2.2.length ≤ 1000
theorem res_ok (r : Res) : okD (resD r) = true := by
  simp [resD, encP, okD, okDs, okDs_bs, okD_enc, okDs_ints]
theorem res_same (r : Res) : sameD (resD r) = true := by
  simp [resD, encP, sameD, sameDs, sameDs_bs, sameD_enc, sameDs_ints]
theorem res_dep {r : Res} (h : Told r) : depD (resD r) ≤ 63 := by
  have hd := h.gd.fit.2
  have h1 := hd r.2.2.1 (List.mem_cons_self ..)
  have h2 := depDs_bs (bs := r.2.1) fun b hb => hd b (List.mem_cons_of_mem _ hb)
  simp [resD, encP, depD, depDs, depD_enc, depDs_ints]
  omega
theorem res_wide {r : Res} (h : Told r) : wideD (resD r) = true := by
  have h1 := h.gd.few
  have h2 := h.few
  simp [resD, encP, wideD, wideDs, wideDs_bs, wideD_enc, wideDs_ints]
  omega
theorem gone_same (o : Option Res) : sameD (goneD o) = true := by
  cases o with
  | none => rfl
  | some r => simp [goneD, sameD, sameDs, res_same]
theorem gone_dep {o : Option Res} (h : ∀ r, o = some r → Told r) : depD (goneD o) < 65 := by
  cases o with
  | none => decide
  | some r =>
    have := res_dep (h r rfl)
    simp [goneD, depD, depDs]
    omega
theorem gone_wide {o : Option Res} (h : ∀ r, o = some r → Told r) : wideD (goneD o) = true := by
  cases o with
  | none => rfl
  | some r =>
    have := res_wide (h r rfl)
    simp [goneD, wideD, wideDs, this]
theorem same_len {d : Dv} (h : wideD d = true) (xs : List Dv) (e : d = .tup xs) : xs.length ≤ 1000000 := wide_len h e
section
variable {K : PySem.W.Frag} {C : Addr} {ds : EnvD} {M : Mm} {Q : Dv → Mm → Prop}
/-- a call with keywords that raises nothing here -/
theorem we_callN {S : SpX} {n m : Nat} {t tk : TA} (h : WA K t ds M fun xs M1 => xs.length = n ∧ WA K tk ds M1 fun zs M2 => zs.length = m ∧ S (xs ++ zs) M2 Q (fun _ => False)) : WE K (tCallN n m (toSpX K C S) (fun vs zs => vs ++ zs) E0 t tk) ds M Q := ⟨fun σ H hE hM R k =>
  h.run σ H hE hM _ fun vs H1 xs M1 e1 m1 a1 ⟨l1, q1⟩ => q1.run σ H1 (hE.mono e1) m1 _ fun zs H2 ys M2 e2 m2 a2 ⟨l2, q2⟩ =>
    ⟨a1.length.trans l1, a2.length.trans l2, _, M2, Q, _, (a1.mono e2).append a2, m2, q2, fun v H' d M' e m a q => k v H' d M' ((e1.trans e2).trans e) m a q, fun _ _ _ _ b => b.elim⟩⟩
end
end FS
set_option maxHeartbeats 4000000
/-! The law: the walk. -/
namespace FS
open PySem PySem.Spec PyProof.Rows L2
local macro_rules | `(tactic| walk_at "t") => `(tactic| exact use_hole (by assumption))
local macro_rules | `(tactic| walk_at "t") => `(tactic| exact use_at (by assumption))
local macro_rules | `(tactic| walk_at "t") => `(tactic| exact use_name (by assumption))
local macro_rules | `(tactic| walk_at "t") => `(tactic| exact use_num (by assumption))
local macro_rules | `(tactic| walk_at "t") => `(tactic| exact leaf_leaves (by assumption))
local macro_rules | `(tactic| walk_at "t") => `(tactic| exact use_leaves (by assumption))
local macro_rules | `(tactic| walk_at "t") => `(tactic| assumption)
local macro_rules | `(tactic| walk_at "t") => `(tactic| decide +kernel)
local macro_rules | `(tactic| walk_at "t") => `(tactic| rfl)
local macro_rules | `(tactic| walk_at "d1") => `(tactic| (with_reducible refine ⟨_, _, _, rfl, ?_⟩))
local macro_rules | `(tactic| walk_at "d1") => `(tactic| (with_reducible refine ⟨_, _, rfl, ?_⟩))
local macro_rules | `(tactic| walk_at "d1") => `(tactic| ((with_reducible refine rv_fdiv ?h1 ?_); (case h1 => exact ⟨by decide, by decide⟩)))
local macro_rules | `(tactic| walk_at "d1") => `(tactic| ((with_reducible refine rv_mod ?h1 ?_); (case h1 => (show (0 : Int) < _; decide))))
local macro_rules | `(tactic| walk_at "d1") => `(tactic| (with_reducible refine we_call (dxs := [.int 0]) (fun H => .cons (.int 0) .nil) ?_))
local macro_rules | `(tactic| walk_at "d1") => `(tactic| ((with_reducible refine' we_c ?h1 ?_); (case h1 => assumption)))
local macro_rules | `(tactic| walk_at "d1") => `(tactic| (with_reducible refine wt_yes ?_))
local macro_rules | `(tactic| walk_at "d1") => `(tactic| (with_reducible refine wg_name ?_))
local macro_rules | `(tactic| walk_at "d1") => `(tactic| (with_reducible refine rv_ix3 ?_))
local macro_rules | `(tactic| walk_at "d1") => `(tactic| (with_reducible refine rv_ix2 ?_))
local macro_rules | `(tactic| walk_at "d1") => `(tactic| (with_reducible refine rv_notN ?_))
local macro_rules | `(tactic| walk_at "d1") => `(tactic| (with_reducible refine rv_isN ?_))
local macro_rules | `(tactic| walk_at "d1") => `(tactic| (with_reducible refine rv_neS ?_))
local macro_rules | `(tactic| walk_at "d1") => `(tactic| (with_reducible refine rv_ge ?_))
local macro_rules | `(tactic| walk_at "d1") => `(tactic| (with_reducible refine rv_gt ?_))
local macro_rules | `(tactic| walk_at "d1") => `(tactic| (with_reducible refine rv_le ?_))
local macro_rules | `(tactic| walk_at "d1") => `(tactic| (with_reducible refine rv_sub ?_))
local macro_rules | `(tactic| walk_at "d1") => `(tactic| (with_reducible refine wo_some ?_))
local macro_rules | `(tactic| walk_at "d1") => `(tactic| (with_reducible refine wo_none ?_))
local macro_rules | `(tactic| walk_at "d1") => `(tactic| (with_reducible refine we_then ?_))
local macro_rules | `(tactic| walk_at "d1") => `(tactic| (with_reducible refine we_un ?_))
local macro_rules | `(tactic| walk_at "d1") => `(tactic| (with_reducible refine we_chain ?_))
local macro_rules | `(tactic| walk_at "d1") => `(tactic| (with_reducible refine we_if ?_))
local macro_rules | `(tactic| walk_at "d1") => `(tactic| (with_reducible refine we_not ?_))
local macro_rules | `(tactic| walk_at "d1") => `(tactic| (with_reducible refine we_or ?_))
local macro_rules | `(tactic| walk_at "d1") => `(tactic| (with_reducible refine we_and ?_))
local macro_rules | `(tactic| walk_at "d1") => `(tactic| (with_reducible refine wt_not ?_))
local macro_rules | `(tactic| walk_at "d1") => `(tactic| (with_reducible refine wt_B ?_))
local macro_rules | `(tactic| walk_at "d1") => `(tactic| (with_reducible refine we_slT ?_))
local macro_rules | `(tactic| walk_at "d1") => `(tactic| (with_reducible refine we_lst ?_))
local macro_rules | `(tactic| walk_at "d1") => `(tactic| (with_reducible refine we_ty ?_))
local macro_rules | `(tactic| walk_at "d1") => `(tactic| (with_reducible refine we_non ?_))
local macro_rules | `(tactic| walk_at "d1") => `(tactic| (with_reducible refine we_bl ?_))
local macro_rules | `(tactic| walk_at "d1") => `(tactic| (with_reducible refine ws_asg ?_))
local macro_rules | `(tactic| walk_at "d1") => `(tactic| (with_reducible refine ws_par3 ?_))
local macro_rules | `(tactic| walk_at "d1") => `(tactic| (with_reducible refine ws_par ?_))
local macro_rules | `(tactic| walk_at "d1") => `(tactic| (with_reducible refine ws_drop ?_))
local macro_rules | `(tactic| walk_at "d1") => `(tactic| (with_reducible refine ru_neg ?_))
local macro_rules | `(tactic| walk_at "d1") => `(tactic| (with_reducible refine rl_isi_bb ?_))
local macro_rules | `(tactic| walk_at "d1") => `(tactic| (with_reducible refine rl_isi_bt ?_))
local macro_rules | `(tactic| walk_at "d1") => `(tactic| (with_reducible refine rl_isi_sb ?_))
local macro_rules | `(tactic| walk_at "d1") => `(tactic| (with_reducible refine rl_isi_st ?_))
local macro_rules | `(tactic| walk_at "d1") => `(tactic| (with_reducible refine rl_isi_is ?_))
local macro_rules | `(tactic| walk_at "d1") => `(tactic| (with_reducible refine rl_isi_it ?_))
local macro_rules | `(tactic| walk_at "d1") => `(tactic| (with_reducible refine rl_isi_ib ?_))
local macro_rules | `(tactic| walk_at "d1") => `(tactic| (with_reducible refine rl_isi_ii ?_))
local macro_rules | `(tactic| walk_at "d1") => `(tactic| (with_reducible refine rl_isi_ss ?_))
local macro_rules | `(tactic| walk_at "d1") => `(tactic| (with_reducible refine rl_isi_tt ?_))
local macro_rules | `(tactic| walk_at "d1") => `(tactic| (with_reducible refine rl_abs ?_))
local macro_rules | `(tactic| walk_at "d1") => `(tactic| (with_reducible refine rl_int ?_))
local macro_rules | `(tactic| walk_at "d1") => `(tactic| (with_reducible refine wt_or ?_))
local macro_rules | `(tactic| walk_at "d1") => `(tactic| (with_reducible refine rv_lt ?_))
local macro_rules | `(tactic| walk_at "d1") => `(tactic| (with_reducible refine rv_add ?_))
local macro_rules | `(tactic| walk_at "d1") => `(tactic| (with_reducible refine we_cb ?_))
local macro_rules | `(tactic| walk_at "d1") => `(tactic| (with_reducible refine ws_set ?_))
local macro_rules | `(tactic| walk_at "d1") => `(tactic| (with_reducible refine rv_ix1 ?_))
local macro_rules | `(tactic| walk_at "d1") => `(tactic| (with_reducible refine wt_and ?_))
local macro_rules | `(tactic| walk_at "d1") => `(tactic| (with_reducible refine we_call0 ?_))
local macro_rules | `(tactic| walk_at "d1") => `(tactic| ((with_reducible refine br_t ?h1 ?_); (case h1 => walk_at "t")))
local macro_rules | `(tactic| walk_at "d1") => `(tactic| ((with_reducible refine rv_inT ?a1 ?a2 ?_); (case a1 => rfl); (case a2 => first | rfl | decide +kernel)))
local macro_rules | `(tactic| walk_at "d1") => `(tactic| ((with_reducible refine len_and ?h1 ?_); (case h1 => first | decide | (simp; done) | (simp; omega))))
local macro_rules | `(tactic| walk_at "d1") => `(tactic| ((with_reducible refine br_f ?h1 ?_); (case h1 => walk_at "t")))
local macro_rules | `(tactic| walk_at "d1") => `(tactic| (with_reducible refine ⟨_, rfl, ?_⟩))
local macro_rules | `(tactic| walk_at "d1") => `(tactic| (with_reducible refine ws_ret ?_))
local macro_rules | `(tactic| walk_at "d1") => `(tactic| (with_reducible refine rv_eqS ?_))
local macro_rules | `(tactic| walk_at "d1") => `(tactic| (with_reducible refine we_tup ?_))
local macro_rules | `(tactic| walk_at "d1") => `(tactic| (with_reducible refine rv_ix0 ?_))
local macro_rules | `(tactic| walk_at "d1") => `(tactic| (with_reducible refine ws_next ?_))
local macro_rules | `(tactic| walk_at "d1") => `(tactic| (with_reducible refine ws_if ?_))
local macro_rules | `(tactic| walk_at "d1") => `(tactic| (with_reducible refine wt_test ?_))
local macro_rules | `(tactic| walk_at "d1") => `(tactic| (with_reducible refine ws_seq ?_))
local macro_rules | `(tactic| walk_at "d1") => `(tactic| (with_reducible refine wa_nil ?_))
local macro_rules | `(tactic| walk_at "d1") => `(tactic| (with_reducible refine we_int ?_))
local macro_rules | `(tactic| walk_at "d1") => `(tactic| (with_reducible refine we_str ?_))
local macro_rules | `(tactic| walk_at "d1") => `(tactic| (with_reducible refine we_op ?_))
local macro_rules | `(tactic| walk_at "d1") => `(tactic| ((with_reducible refine' we_var ?h1 ?_); (case h1 => exact rfl)))
local macro_rules | `(tactic| walk_at "d1") => `(tactic| (with_reducible refine wa_cons ?_))
local macro_rules | `(tactic| walk_at "d") => `(tactic| repeat (walk_at "d1"))
theorem sc_law : FnScope ["_law_script", "_law_well_here", "_law_program_here", "_law_n", "_law_m", "_law_first", "_law_whole", "_law_more"] ["_law_script"] (defScope s_law) := ⟨rfl, rfl, rfl, by decide +kernel, rfl, by decide +kernel, by decide +kernel⟩
theorem sc__law_tried : FnScope ["_law_call"] ["_law_call"] (defScope s__law_tried) := ⟨rfl, rfl, rfl, by decide +kernel, rfl, by decide +kernel, by decide +kernel⟩
theorem lamS_law {sc : Scope} (h : LamX.lamSB (defScope s_law) sc = true) : LamX.LamS (defScope s_law) sc := LamX.lamS_by h
def spLaw (K : PySem.W.Frag) : Sp := fun vs H R _ => ∃ (a : Addr) (ns : List Int), vs = [.ref a] ∧ SqL K H a (ns.map V.int) ∧ ns.length ≤ 63 ∧ LamX.Tabs (lawT K) H ∧ ∀ H', R (.bl true) H'
section
variable {K : PySem.W.Frag} {H : Hp} {C : Addr} {M : Mm} {Q : Dv → Mm → Prop}
/-- the script as data -/
def ScrD (M : Mm) (x : Dv) (ns : List Int) : Prop := x = .frl ns ∨ ∃ b, x = .adr b ∧ M b = some (.lst (ns.map .int))
theorem script_dat {a : Addr} {ns : List Int} (h : SqL K H a (ns.map V.int)) : ∃ (x : Dv) (M0 : Mm), DAts K H [.ref a] [x] ∧ MAt K H M0 ∧ ScrD M0 x ns := by
  have e0 : MAt K H fun _ => none := fun b o q => by cases q
  rcases h with (h | ⟨o, h⟩) | h
  · refine ⟨.adr a, fun b => if b = a then some (.lst (ns.map .int)) else none, .cons (.adr a) .nil, fun b o q => ?_, .inr ⟨a, rfl, if_pos rfl⟩⟩
    by_cases hb : b = a
    · subst hb
      have q' := (if_pos rfl).symm.trans q
      cases q'
      have intsR : ∀ l : List Int, DAts K H (l.map V.int) (l.map Dv.int) := fun l => by
        induction l with
        | nil => exact .nil
        | cons n l ih => exact .cons (.int n) ih
      exact ⟨_, h, intsR ns⟩
    · have q' := (if_neg hb).symm.trans q
      cases q'
  · exact ⟨.frl ns, _, .cons (.frl (.inl ⟨o, h⟩)) .nil, e0, .inl rfl⟩
  · exact ⟨.frl ns, _, .cons (.frl (.inr fun H' => .inr h)) .nil, e0, .inl rfl⟩
theorem wellB_of {x : Dv} {ns : List Int} (h : ScrD M x ns) (hn : ns.length ≤ 1000000) (q : ∀ M' p, MEx M M' → Well M' p → Q (.adr p) M') : T_wellB [x, .int 0] M Q := by
  rcases h with rfl | ⟨b, rfl, hb⟩
  · exact .inl ⟨ns, rfl, hn, q⟩
  · exact .inr ⟨ns, b, rfl, hb, hn, q⟩
/-- what the call told through the lambda is due -/
def LamD (S : SpX) (Q : Dv → Mm → Prop) (xs : List Dv) (M : Mm) : Prop := S xs M (fun d M2 => Q (.tup [.bl true, d]) M2) (fun M2 => Q (.tup [.bl false]) M2)
theorem wex_lamD {S : SpX} {H0 : Hp} {ds : EnvD} {args : TA} (h0 : LamX.Tabs (lawT K) H0) (hS : PySem.W.exmOne K (.ref C) (.ref C) = some true) (h : WA K args ds M fun xs M1 => LamD S Q xs M1) :
    WEX K H0 (LamX.tLam (lawT K) (TTried K C) fun E => tCallS (toSpX K C S) (L2.WE fun cls d _ H => E cls d H) args) ds M Q := wex_lam h0 hS h
theorem go_of {cs : List Tm} {u : Tm} {k : Nat} {z : Int} (ez : z = (k : Int)) (hgd : Gd cs u) (hk : k ≤ 1000) (q : ∀ M', MEx M M' → Q (goneD (run k 0 (tidyB cs u) (tidyT cs u) [])) M') : LamD S_go Q [encP cs u, .int z] M :=
  ⟨cs, u, k, by rw [ez], hgd, hk, fun M' h => ⟨fun r e => by have := q M' h; rw [e] at this; exact this, fun e => by have := q M' h; rw [e] at this; exact this⟩⟩
theorem same_of {o : Option Res} (h : ∀ r, o = some r → Told r) (q : ∀ M', MEx M M' → Q (.bl true) M') : T_same 65 [goneD o, goneD o] M Q := ⟨_, rfl, gone_same _, same_len (gone_wide h), gone_dep h, gone_wide h, q⟩
theorem wsx_end {t : TS} {N : List Str} {xs : List Dv} {vs : List V} {R : VK} (hb : WSX K H t (startD N xs) M (.fn fun d _ => d = .bl true)) (h1 : DAts K H vs xs) (h2 : MAt K H M) (hR : ∀ H', R (.bl true) H') : t { nx := fun _ H' => R .non H', rt := R } (L2.start N vs) H :=
  hb.run _ H .refl (env_start h1) h2 _ ⟨fun σ' H' ds' M' e _ m q => (by cases q), fun v H' d M' e m a q => (by subst q; cases a; exact hR H'), fun _ _ _ _ _ _ _ q => q.elim, fun _ _ _ _ _ _ _ q => q.elim⟩
theorem told_run {k : Nat} {cs : List Tm} {u : Tm} (h : Gd cs u) (ht : Tid cs u) (hk : k ≤ 1000) : ∀ r, run k 0 cs u [] = some r → Told r := fun r e => by
  obtain ⟨h1, _, h3, _⟩ := run_good k 0 _ _ [] r h ht e
  exact ⟨h1, by simp at h3; omega⟩
end
section
variable {P : Program} {w : World} {K : PySem.W.Frag} {mg : Str → Option Value} {base : Heap} {C : Addr}
theorem ok_law (G : Glb K mg) (TE : ExcT K mg "TooGreat" C) {L : Nat} (c__law_well : Cal P w K mg base L "_law_well" T_wellB []) (c__law_program : Cal P w K mg base L "_law_program" T_prog []) (c__law_jumbled : Cal P w K mg base L "_law_jumbled" T_jum [])
    (c__law_draw : Cal P w K mg base L "_law_draw" T_draw []) (c__law_gone : Cal P w K mg base L "_law_gone" T_gone []) (c__law_same : Cal P w K mg base L "_law_same" (T_same 65) []) (c_go_on : CalXP P w K mg base C L "go_on" ["program", "steps"] S_go)
    {f : Addr} {fd : FuncData} (F : FnP K "law" s_law [] f fd) (hf : He.fAd K ("law", none) = f) (TB0 : LamX.TabB base mg (He.cT K ("law", none)).1 (He.cT K ("law", none)).2) : FnOk P w K mg base (L2.CX P w) (L + 3) f fd ["_law_script"] (spLaw K) := by
  obtain ⟨fT, fdT, FT, hmTr⟩ := (G.d__law_tried).ex
  have bT : Binds K fdT ["_law_call"] [] := FT.bindsN (fun _ _ _ _ _ _ us hl => match us, hl with | [_], _ => rfl)
  obtain ⟨ocT, odT, dVT, kVT, docT, pmT, anT, cdT, ctT, oslT, rfl, lkT, hcT, _, _⟩ := FT.ex
  obtain ⟨fGo, fdGo, Fgo, hmGo, kpGo, FPgo⟩ := cal_kw c_go_on G.d_go_on
  obtain ⟨oc, od, dV, kV, doc, pm, an, cdv, ct, osl, rfl, lk, hcd, _, _⟩ := F.ex
  obtain ⟨c, hc⟩ := He.codeIn_ref hcd
  subst hc
  have ecode : He.codeOf K ("law", none) = c := He.codeOf_eq (by rw [hf]; exact lk) rfl
  refine L2.fn_of lk hcd sc_law (fun vs H Q E h => ?_) fun A outer s H vs R E hr h => ?_
  · obtain ⟨a, ns, rfl, _⟩ := h
    rfl
  obtain ⟨a, ns, rfl, hS, hns, hT0, hR⟩ := h
  obtain ⟨x, M0, hx, hM0, hsc⟩ := script_dat hS
  have TB : LamX.TabB base mg c (He.cT K ("law", none)).2 := by
    have e : (He.cT K ("law", none)).1 = c := ecode
    rw [← e]
    exact TB0
  have hcode : (cxOf (L2.CX P w) P w K mg base ["_law_script", "_law_well_here", "_law_program_here", "_law_n", "_law_m", "_law_first", "_law_whole", "_law_more"] "law" (defScope s_law) f (.ref c) A outer s H E).env.code = .ref c := rfl
  have hmem : ((He.cT K ("law", none)).2, (cxOf (L2.CX P w) P w K mg base ["_law_script", "_law_well_here", "_law_program_here", "_law_n", "_law_m", "_law_first", "_law_whole", "_law_more"] "law" (defScope s_law) f (.ref c) A outer s H E).env.qual ++ "<lambda>") ∈ lawT K := List.mem_singleton.mpr rfl
  have hu : ∀ p ∈ lawT K, p.1 = (He.cT K ("law", none)).2 → p.2 = (cxOf (L2.CX P w) P w K mg base ["_law_script", "_law_well_here", "_law_program_here", "_law_n", "_law_m", "_law_first", "_law_whole", "_law_more"] "law" (defScope s_law) f (.ref c) A outer s H E).env.qual ++ "<lambda>" := fun p hp _ => by
    rw [List.mem_singleton.mp hp]
    rfl
  refine ⟨_, (pss_cons (ps_set (i := 1) sc_law.nd rfl (.inl rfl) (pe_cal c__law_well hr (by omega) ⟨rfl, rfl, rfl, rfl, rfl⟩ rfl (pa_cons (pv 0) (pa_cons pe_int pa_nil))))
      (pss_cons (ps_set (i := 2) sc_law.nd rfl (.inr rfl) (pe_cal c__law_jumbled hr (by omega) ⟨rfl, rfl, rfl, rfl, rfl⟩ rfl (pa_cons (pv 1) (pa_cons (pe_cal c__law_program hr (by omega) ⟨rfl, rfl, rfl, rfl, rfl⟩ rfl (pa_cons (pv 1) pa_nil)) pa_nil))))
      (pss_cons (ps_asg (pe_tup (pa_cons (pe_cal c__law_draw hr (by omega) ⟨rfl, rfl, rfl, rfl, rfl⟩ rfl (pa_cons (pv 1) (pa_cons pe_int pa_nil))) (pa_cons (pe_cal c__law_draw hr (by omega) ⟨rfl, rfl, rfl, rfl, rfl⟩ rfl (pa_cons (pv 1) (pa_cons pe_int pa_nil))) pa_nil))) (pg_tupK (K := K) (n := 2) rfl rfl (pgs_cons (pg_name (i := 3) sc_law.nd rfl (.inr rfl)) (pgs_cons (pg_name (i := 4) sc_law.nd rfl (.inr rfl)) pgs_nil)) (by rfl) (by rfl)))
      (pss_cons (ps_asg (pe_tup (pa_cons (pe_cal c__law_gone hr (by omega) ⟨rfl, rfl, rfl, rfl, rfl⟩ rfl (pa_cons (pv 2) (pa_cons (pv 3) pa_nil))) (pa_cons (pe_cal c__law_gone hr (by omega) ⟨rfl, rfl, rfl, rfl, rfl⟩ rfl (pa_cons (pv 2) (pa_cons (pe_op op_add (pv 3) (pv 4)) pa_nil))) pa_nil))) (pg_tupK (K := K) (n := 2) rfl rfl (pgs_cons (pg_name (i := 5) sc_law.nd rfl (.inr rfl)) (pgs_cons (pg_name (i := 6) sc_law.nd rfl (.inl rfl)) pgs_nil)) (by rfl) (by rfl)))
      (pss_cons (ps_if (pt_not (pt_val (pe_cal c__law_same hr (by omega) ⟨rfl, rfl, rfl, rfl, rfl⟩ rfl (pa_cons (LamX.pe_lamcall (T := lawT K) (TT := TTried K C) (t := fun E => tCallS (toSpX K C S_go) (L2.WE fun cls d _ H => E cls d H) _) (k := L) rfl hmTr FT.kp lkT hcT bT sc__law_tried rfl (.inl rfl) (tried_gives rfl TE.g (by decide) (fun _ => rfl)) TB hcode hmem hu (hr.mono (by omega)) (lamS_law (by decide +kernel)) rfl (fun _ _ _ _ _ => rfl) (fun A outer s H E f c' hr2 => pe_calX c_go_on.cal hr2 (by omega) ⟨rfl, rfl, rfl, rfl, rfl⟩ rfl (takes_of rfl rfl rfl rfl) (pa_cons (pv 2) (pa_cons (pv 3) pa_nil)))) (pa_cons (pv 5) pa_nil)))))
        (pss_one (ps_ret pe_bl))
        pss_nil)
      (pss_cons (ps_if (pt_not (pt_val (pe_cal c__law_same hr (by omega) ⟨rfl, rfl, rfl, rfl, rfl⟩ rfl (pa_cons (LamX.pe_lamcall (T := lawT K) (TT := TTried K C) (t := fun E => tCallS (toSpX K C S_go) (L2.WE fun cls d _ H => E cls d H) _) (k := L) rfl hmTr FT.kp lkT hcT bT sc__law_tried rfl (.inl rfl) (tried_gives rfl TE.g (by decide) (fun _ => rfl)) TB hcode hmem hu (hr.mono (by omega)) (lamS_law (by decide +kernel)) rfl (fun _ _ _ _ _ => rfl) (fun A outer s H E f c' hr2 => pe_calX c_go_on.cal hr2 (by omega) ⟨rfl, rfl, rfl, rfl, rfl⟩ rfl (takes_of rfl rfl rfl rfl) (pa_cons (pv 2) (pa_cons (pe_op op_add (pv 3) (pv 4)) pa_nil)))) (pa_cons (pv 6) pa_nil)))))
        (pss_one (ps_ret pe_bl))
        pss_nil)
      (pss_cons (ps_if (pt_not (pt_val (pe_ix (ix_tupK (K := K) rfl) (pv 5) pe_int (fun _ _ => rfl))))
        (pss_one (ps_ret pe_bl))
        pss_nil)
      (pss_cons (ps_set (i := 7) sc_law.nd rfl (.inl rfl) (LamX.pe_lamcall (T := lawT K) (TT := TTried K C) (t := fun E => tCallS (toSpX K C S_go) (L2.WE fun cls d _ H => E cls d H) _) (k := L) rfl hmTr FT.kp lkT hcT bT sc__law_tried rfl (.inl rfl) (tried_gives rfl TE.g (by decide) (fun _ => rfl)) TB hcode hmem hu (hr.mono (by omega)) (lamS_law (by decide +kernel)) rfl (fun _ _ _ _ _ => rfl) (fun A outer s H E f c' hr2 => pe_calX c_go_on.cal hr2 (by omega) ⟨rfl, rfl, rfl, rfl, rfl⟩ rfl (takes_of rfl rfl rfl rfl) (pa_cons (pe_ix (ix_tupK (K := K) rfl) (pe_ix (ix_tupK (K := K) rfl) (pv 5) pe_int (fun _ _ => rfl)) pe_int (fun _ _ => rfl)) (pa_cons (pv 4) pa_nil)))))
      (pss_cons (ps_if (PW.pt (pw_or (pt_not (pt_val (pe_cal c__law_same hr (by omega) ⟨rfl, rfl, rfl, rfl, rfl⟩ rfl (pa_cons (pv 7) (pa_cons (pe_cal c__law_gone hr (by omega) ⟨rfl, rfl, rfl, rfl, rfl⟩ rfl (pa_cons (pe_ix (ix_tupK (K := K) rfl) (pe_ix (ix_tupK (K := K) rfl) (pv 5) pe_int (fun _ _ => rfl)) pe_int (fun _ _ => rfl)) (pa_cons (pv 4) pa_nil))) pa_nil))))) (pw_or1 (pt_cmpR (op_neDK (K := K) rfl hr.units) (pe_ix (ix_tupK (K := K) rfl) (pv 7) pe_int (fun _ _ => rfl)) (pe_ix (ix_tupK (K := K) rfl) (pv 6) pe_int (fun _ _ => rfl)) (nomark _)))))
        (pss_one (ps_ret pe_bl))
        pss_nil)
      (pss_cons (ps_if (pt_not (pt_val (pe_ix (ix_tupK (K := K) rfl) (pv 6) pe_int (fun _ _ => rfl))))
        (pss_one (ps_ret pe_bl))
        pss_nil)
      (pss_cons (ps_if (pt_cmpR (op_neDK (K := K) rfl hr.units) (pe_tup (pa_cons (pe_op op_add (pe_ix (ix_tupK (K := K) rfl) (pe_ix (ix_tupK (K := K) rfl) (pv 5) pe_int (fun _ _ => rfl)) pe_int (fun _ _ => rfl)) (pe_ix (ix_tupK (K := K) rfl) (pe_ix (ix_tupK (K := K) rfl) (pv 7) pe_int (fun _ _ => rfl)) pe_int (fun _ _ => rfl))) (pa_cons (pe_ix (ix_tupK (K := K) rfl) (pe_ix (ix_tupK (K := K) rfl) (pv 7) pe_int (fun _ _ => rfl)) pe_int (fun _ _ => rfl)) (pa_cons (pe_op (op_catK (K := K) rfl) (pe_ix (ix_tupK (K := K) rfl) (pe_ix (ix_tupK (K := K) rfl) (pv 5) pe_int (fun _ _ => rfl)) pe_int (fun _ _ => rfl)) (pe_ix (ix_tupK (K := K) rfl) (pe_ix (ix_tupK (K := K) rfl) (pv 7) pe_int (fun _ _ => rfl)) pe_int (fun _ _ => rfl))) pa_nil)))) (pe_ix (ix_tupK (K := K) rfl) (pv 6) pe_int (fun _ _ => rfl)) (nomark _))
        (pss_one (ps_ret pe_bl))
        pss_nil)
      (pss_cons (ps_if (pt_cmpR op_lt (pe_ix (ix_tupK (K := K) rfl) (pe_ix (ix_tupK (K := K) rfl) (pv 6) pe_int (fun _ _ => rfl)) pe_int (fun _ _ => rfl)) (pe_op op_add (pv 3) (pv 4)) (nomark _))
        (pss_one (ps_ret (pe_cal c__law_same hr (by omega) ⟨rfl, rfl, rfl, rfl, rfl⟩ rfl (pa_cons (pe_callN Fgo (hr.mono (by omega)) rfl hmGo kpGo (kb_go FPgo) passL (pa_cons (pv 2) pa_nil) (pk_cons pe_int pk_nil)) (pa_cons (pe_ix (ix_tupK (K := K) rfl) (pv 6) pe_int (fun _ _ => rfl)) pa_nil)))))
        pss_nil)
      (pss_one (ps_ret pe_bl)))))))))))))), ?_⟩
  refine wsx_end ?_ hx hM0 hR
  refine wsx_seqW ?_
  walk_at "d"
  refine wellB_of hsc (by omega) fun M1 p h1 w1 => ?_
  refine wsx_seqW ?_
  walk_at "d"
  refine ⟨p, rfl, w1, fun M2 bs t hok h2 w2 => ?_⟩
  walk_at "d"
  refine ⟨p, bs, t, rfl, w2, hok, fun M3 cs u hgd h3 w3 => ?_⟩
  refine wsx_seqW ?_
  walk_at "d"
  refine ⟨p, 9, rfl, w3, by decide, by decide, fun M4 n hn h4 w4 => ?_⟩
  walk_at "d"
  refine ⟨p, 9, rfl, w4, by decide, by decide, fun M5 m hm h5 w5 => ?_⟩
  walk_at "d"
  refine wg_tup rfl (wgs_cons (wg_name (wgs_cons (wg_name (wgs_nil ?_)))))
  refine wsx_seqW ?_
  walk_at "d"
  refine ⟨cs, u, n, rfl, hgd, by omega, fun M6 h6 => ?_⟩
  walk_at "d"
  refine ⟨cs, u, n + m, by rw [Int.natCast_add], hgd, by omega, fun M7 h7 => ?_⟩
  walk_at "d"
  refine wg_tup rfl (wgs_cons (wg_name (wgs_cons (wg_name (wgs_nil ?_)))))
  have hgt := gd_tidy hgd
  have htt := tidy_tid hgd.wf
  have ht1 := told_run (k := n) hgt htt (by omega)
  have ht2 := told_run (k := n + m) hgt htt (by omega)
  refine wsx_seq (wsx_ifX (wtx_not (wtx_B (wex_call0 (wax_cons (wex_lamD hT0 TE.s ?_))))))
  walk_at "d"
  refine go_of (k := n) rfl hgd (by omega) fun M8 h8 => ?_
  walk_at "d"
  refine same_of ht1 fun M9 h9 => ?_
  refine ⟨true, rfl, br_f rfl ?_⟩
  skip
  refine wsx_of ?_
  walk_at "d"
  refine wsx_seq (wsx_ifX (wtx_not (wtx_B (wex_call0 (wax_cons (wex_lamD hT0 TE.s ?_))))))
  walk_at "d"
  refine go_of (k := n + m) (by rw [Int.natCast_add]) hgd (by omega) fun M10 h10 => ?_
  walk_at "d"
  refine same_of ht2 fun M11 h11 => ?_
  refine ⟨true, rfl, br_f rfl ?_⟩
  refine wsx_of ?_
  walk_at "d"
  obtain ⟨r1, e1⟩ : ∃ r1, run n 0 (tidyB cs u) (tidyT cs u) [] = r1 := ⟨_, rfl⟩
  obtain ⟨r2, e2⟩ : ∃ r2, run (n + m) 0 (tidyB cs u) (tidyT cs u) [] = r2 := ⟨_, rfl⟩
  rw [e1, e2]
  rw [e1] at ht1
  rw [e2] at ht2
  refine wsx_seq (wsx_if ?_)
  have g0 : goneD none = .tup [.bl false] := rfl
  have gs : ∀ d1 b1 t1 s1, goneD (some (d1, b1, t1, s1)) = .tup [.bl true, .tup [.int ((d1 : Nat) : Int), encP b1 t1, .tup (s1.map .int)]] := fun _ _ _ _ => rfl
  cases r1 with
  | none =>
    rw [g0]
    walk_at "d"
    refine wsx_of ?_
    walk_at "d"
    rfl
  | some r =>
    obtain ⟨d1, b1, t1, s1⟩ := r
    have hl := run_law (m := m) e1
    rw [e2] at hl
    obtain ⟨hg1, hid1, hs1, hd1⟩ := run_good n 0 _ _ [] _ hgt htt e1
    rw [gs]
    walk_at "d"
    refine wsx_of ?_
    walk_at "d"
    refine wsx_seq (wsx_setX (wex_lamD hT0 TE.s ?_))
    walk_at "d"
    refine go_of (k := m) rfl hg1 (by omega) fun M12 h12 => ?_
    have eb : tidyB b1 t1 = b1 := hid1.b
    have et : tidyT b1 t1 = t1 := hid1.t
    dsimp only
    rw [eb, et]
    obtain ⟨r3, e3⟩ : ∃ r3, run m 0 b1 t1 [] = r3 := ⟨_, rfl⟩
    have ht3 := told_run (k := m) hg1 hid1 (by omega)
    dsimp only at hl ht3
    rw [e3] at hl ht3 ⊢
    refine wsx_seq (wsx_if ?_)
    walk_at "d"
    refine ⟨b1, t1, m, rfl, hg1, by omega, fun M13 h13 => ?_⟩
    rw [eb, et, e3]
    walk_at "d"
    refine same_of ht3 fun M14 h14 => ?_
    refine ⟨true, rfl, br_f rfl ?_⟩
    cases r3 with
    | none =>
      have h2 : r2 = none := hl
      rw [h2, g0]
      walk_at "d"
      refine rv_neSelf rfl (by decide) ?_
      walk_at "d"
      refine wsx_of ?_
      walk_at "d"
      refine wsx_seq (wsx_if ?_)
      walk_at "d"
      refine wsx_of ?_
      walk_at "d"
      rfl
    | some q =>
      obtain ⟨d3, b3, t3, s3⟩ := q
      have h2 : r2 = some (d3 + d1, b3, t3, s1 ++ s3) := hl
      rw [h2, gs, gs]
      walk_at "d"
      refine rv_neSelf rfl (by decide) ?_
      walk_at "d"
      obtain ⟨hg3, hid3, hs3, hd3⟩ := run_good m 0 _ _ [] _ hg1 hid1 e3
      have htd := ht2 _ h2
      have hfew := htd.few
      dsimp only [List.length_nil] at hs1 hs3 hd1 hd3 hfew
      rw [List.length_append] at hfew
      refine wsx_of ?_
      walk_at "d"
      refine wsx_seq (wsx_if ?_)
      walk_at "d"
      refine wsx_of ?_
      walk_at "d"
      refine wsx_seq (wsx_if ?_)
      walk_at "d"
      refine rv_catT (by simp; omega) ?_
      walk_at "d"
      have ez : Dv.tup [.int ((d1 : Int) + (d3 : Int)), encP b3 t3, .tup (s1.map Dv.int ++ s3.map Dv.int)] = resD (d3 + d1, b3, t3, s1 ++ s3) := by
        have e : (d1 : Int) + (d3 : Int) = ((d3 + d1 : Nat) : Int) := by omega
        rw [e, ← List.map_append]
        rfl
      rw [ez]
      refine rv_neSelf (res_ok _) (Nat.le_trans (res_dep htd) (by decide)) ?_
      walk_at "d"
      refine wsx_of ?_
      walk_at "d"
      refine wsx_seq (wsx_if ?_)
      walk_at "d"
      refine ⟨fun hlt => ?_, fun hge => ?_⟩
      · have hlt' := of_decide_eq_true hlt
        have hm1 := run_more (e2.trans h2) (show d3 + d1 < n + m by omega) (show n + m ≤ 1000 by omega)
        refine wsx_of ?_
        walk_at "d"
        refine we_callN ?_
        walk_at "d"
        refine ⟨rfl, ?_⟩
        walk_at "d"
        refine ⟨rfl, cs, u, 1000, rfl, hgd, by omega, fun M15 h15 => ⟨fun r' er' => ?_, fun er' => ?_⟩⟩
        · rw [hm1] at er'
          cases er'
          walk_at "d"
          exact ⟨resD (d3 + d1, b3, t3, s1 ++ s3), rfl, res_same _, same_len (res_wide htd), Nat.lt_of_le_of_lt (res_dep htd) (by decide), res_wide htd, fun M16 h16 => rfl⟩
        · rw [hm1] at er'
          cases er'
      · refine wsx_of ?_
        walk_at "d"
        refine wsx_of ?_
        walk_at "d"
        rfl
end
end FS
set_option maxHeartbeats 4000000
/-! The levels: every def keeps its promise at a level of its own. -/
namespace FS
open PySem PySem.Spec PyProof.Rows L2
section
variable {P : Program} {w : World} {K : PySem.W.Frag} {mg : Str → Option Value} {base : Heap} {C : Addr}
theorem no_dep {t : Tm} (h : t.dep ≤ 0) : False := by
  have := Tm.dep_pos t
  omega
theorem lv_length_by (G : Glb K mg) : ∀ n : Nat, Cal P w K mg base n "length_by" (S_len n) []
  | 0 => cal_zeroN (ps := ["words", "term"]) G.d_length_by (fun _ _ _ _ _ _ us hl => match us, hl with | [_, _], _ => rfl) (fun xs M Q h => by obtain ⟨t, _, hd, _⟩ := h; exact no_dep hd)
  | n + 1 => step_length_by G (lv_length_by G n)
theorem lv_depth_by (G : Glb K mg) : ∀ n : Nat, Cal P w K mg base n "depth_by" (S_dep n) []
  | 0 => cal_zeroN (ps := ["term"]) G.d_depth_by (fun _ _ _ _ _ _ us hl => match us, hl with | [_], _ => rfl) (fun xs M Q h => by obtain ⟨t, _, hd, _⟩ := h; exact no_dep hd)
  | n + 1 => step_depth_by G (lv_depth_by G n)
theorem lv_led_by (G : Glb K mg) : ∀ n : Nat, CalD P w K mg base (n + 1) "led_by" (S_led n) (.int 0)
  | 0 => cal_zeroD (ps := ["words", "term", "ways", "by", "outward"]) G.d_led_by rfl (fun _ _ _ _ _ _ _ us its hl hi => match us, its, hl, hi with | [_, _, _, _, _], [_], _, _ => ⟨_, rfl, rfl⟩) (fun _ _ _ _ _ _ _ us its hl hi => match us, its, hl, hi with | [_, _, _, _], [_], _, _ => ⟨_, rfl, rfl⟩) (fun xs M Q h => by obtain ⟨t, d, b, _, _, hd, _⟩ := h; exact no_dep hd)
  | n + 1 => step_led_by G (cal_led_name G) (cal_parts_with_names G) (lv_led_by G n)
theorem lv_put_in_by (G : Glb K mg) (m : Nat) : ∀ n : Nat, CalD P w K mg base (n + (m + 1)) "put_in_by" (S_put n m) (.int 0)
  | 0 => cal_zeroD (ps := ["words", "term", "given", "outward"]) G.d_put_in_by rfl (fun _ _ _ _ _ _ _ us its hl hi => match us, its, hl, hi with | [_, _, _, _], [_], _, _ => ⟨_, rfl, rfl⟩) (fun _ _ _ _ _ _ _ us its hl hi => match us, its, hl, hi with | [_, _, _], [_], _, _ => ⟨_, rfl, rfl⟩) (fun xs M Q h => by obtain ⟨t, gs, d, _, _, _, hd, _⟩ := h; exact no_dep hd)
  | n + 1 => by
    have e : n + 1 + (m + 1) = n + (m + 1) + 1 := by omega
    rw [e]
    exact step_put_in_by G (by omega) (cal_parts_with_names G) (lv_led_by G m) (lv_put_in_by G m n)
theorem lv_put_length (G : Glb K mg) : ∀ n : Nat, CalD P w K mg base (n + 1) "put_length" (S_putl n) (.int 0)
  | 0 => cal_zeroD (ps := ["words", "term", "lengths", "outward"]) G.d_put_length rfl (fun _ _ _ _ _ _ _ us its hl hi => match us, its, hl, hi with | [_, _, _, _], [_], _, _ => ⟨_, rfl, rfl⟩) (fun _ _ _ _ _ _ _ us its hl hi => match us, its, hl, hi with | [_, _, _], [_], _, _ => ⟨_, rfl, rfl⟩) (fun xs M Q h => by obtain ⟨t, gs, d, p, _, _, hd, _⟩ := h; exact no_dep hd)
  | n + 1 => step_put_length G (cal_parts_with_names G) (lv_put_length G n)
theorem lv_put_depth (G : Glb K mg) : ∀ n : Nat, CalD P w K mg base (n + 1) "put_depth" (S_putd n) (.int 0)
  | 0 => cal_zeroD (ps := ["words", "term", "depths", "outward"]) G.d_put_depth rfl (fun _ _ _ _ _ _ _ us its hl hi => match us, its, hl, hi with | [_, _, _, _], [_], _, _ => ⟨_, rfl, rfl⟩) (fun _ _ _ _ _ _ _ us its hl hi => match us, its, hl, hi with | [_, _, _], [_], _, _ => ⟨_, rfl, rfl⟩) (fun xs M Q h => by obtain ⟨t, gs, d, p, _, _, hd, _⟩ := h; exact no_dep hd)
  | n + 1 => step_put_depth G (cal_parts_with_names G) (lv_put_depth G n)
theorem lv_ats_led_by (G : Glb K mg) : ∀ n : Nat, Cal P w K mg base n "ats_led_by" (S_atsled n) []
  | 0 => cal_zeroN (ps := ["term", "numbers"]) G.d_ats_led_by (fun _ _ _ _ _ _ us hl => match us, hl with | [_, _], _ => rfl) (fun xs M Q h => by obtain ⟨t, p, kvs, ks, _, _, _, hd, _⟩ := h; exact no_dep hd)
  | n + 1 => step_ats_led_by G (lv_ats_led_by G n)
theorem lv_is_value_by (G : Glb K mg) : ∀ n : Nat, Cal P w K mg base n "is_value_by" (S_isval n) []
  | 0 => cal_zeroN (ps := ["term"]) G.d_is_value_by (fun _ _ _ _ _ _ us hl => match us, hl with | [_], _ => rfl) (fun xs M Q h => by obtain ⟨t, _, hd, _⟩ := h; exact no_dep hd)
  | n + 1 => step_is_value_by G (lv_is_value_by G n)
theorem lv_replaced_by (G : Glb K mg) : ∀ n : Nat, Cal P w K mg base n "replaced_by" (S_repl n) []
  | 0 => cal_zeroN (ps := ["term", "place", "part"]) G.d_replaced_by (fun _ _ _ _ _ _ us hl => match us, hl with | [_, _, _], _ => rfl) (fun xs M Q h => by obtain ⟨t, pl, r, u, _, hd, _⟩ := h; exact absurd hd (Nat.not_lt_zero _))
  | n + 1 => step_replaced_by G (lv_replaced_by G n)
theorem lv_names_met (G : Glb K mg) : ∀ n : Nat, Cal P w K mg base (n + 1) "names_met" (S_names n) []
  | 0 => cal_zeroN (ps := ["words", "term", "outward", "found"]) G.d_names_met (fun _ _ _ _ _ _ us hl => match us, hl with | [_, _, _, _], _ => rfl) (fun xs M Q h => by obtain ⟨t, d, p, _, _, hd, _⟩ := h; exact no_dep hd)
  | n + 1 => step_names_met G (cal_parts_with_names G) (lv_names_met G n)
theorem lv_ats_met (G : Glb K mg) {m : Nat} (hm : m < 1000000) : ∀ n : Nat, Cal P w K mg base n "ats_met" (S_ats n m) []
  | 0 => cal_zeroN (ps := ["term", "found"]) G.d_ats_met (fun _ _ _ _ _ _ us hl => match us, hl with | [_, _], _ => rfl) (fun xs M Q h => by obtain ⟨t, p, ks, _, _, _, hd, _⟩ := h; exact no_dep hd)
  | n + 1 => step_ats_met G hm (lv_ats_met G hm n)
theorem lv_place_by (G : Glb K mg) (GW : GlbW K w mg) : ∀ n : Nat, n ≤ 60 → Cal P w K mg base (n + 60) "place_by" (S_place n) []
  | 0, _ => cal_zeroN (ps := ["term"]) G.d_place_by (fun _ _ _ _ _ _ us hl => match us, hl with | [_], _ => rfl) (fun xs M Q h => by obtain ⟨t, _, _, hd, _⟩ := h; exact no_dep hd)
  | n + 1, hn => by
    have e : n + 1 + 60 = n + 60 + 1 := by omega
    rw [e]
    exact step_place_by G GW (by omega) ((lv_is_value_by G (n + 1)).mono hn) (lv_place_by G GW n (by omega))
theorem lv_go_on (G : Glb K mg) (GW : GlbW K w mg) (TE : ExcT K mg "TooGreat" C) : CalXP P w K mg base C 125 "go_on" ["program", "steps"] S_go := by
  have whole := cal_is_whole (P := P) (w := w) (base := base) G
  have number := cal_is_number G whole
  have pat := cal_is_patterned G (cal_is_leaf G number (cal_is_count G))
  have closed := cal_is_closed_term G (n := 60) (by omega) pat (cal_free_by G (lv_names_met G 60))
  have ats := cal_ats_by (P := P) (w := w) (base := base) G (lv_ats_met (m := 1500) G (by omega) 60)
  have words := cal_words_of (P := P) (base := base) G GW
  have src := cal_is_sourced G (n := 60) (m := 1500) (by omega) (by omega) closed ((lv_length_by G 60).mono (by omega)) (ats.mono (by omega))
  have prog := cal_is_programmed G (n := 60) (by omega) (by omega) words src ((lv_is_value_by G 60).mono (by omega))
  have chk := cal_check_program G prog
  have chkn := cal_check_number G whole
  have fit := cal_are_fitting G (n := 120) (lv_length_by (P := P) (w := w) (base := base) G 120) (lv_depth_by G 120)
  have tidy := cal_tidied_by G (n := 60) (l := 1500) (cal_met_by G ats) ((lv_ats_led_by G 60).mono (by omega))
  have summed := cal_summed (P := P) (w := w) (base := base) G
  have fault := cal_fault_of G summed number
  have place := lv_place_by (P := P) (base := base) G GW 60 (by omega)
  have part := cal_part_by (P := P) (w := w) (base := base) G
  have out := cal_outcome_by G (n := 60) (by omega) place part fault
  have made := cal_made G summed
  have called := cal_called (L := 121) G TE (n := 60) (words.mono (by omega)) ((lv_length_by G 60).mono (by omega)) ((lv_depth_by G 60).mono (by omega)) ((lv_put_length G 60).mono (by omega)) ((lv_put_depth G 60).mono (by omega)) ((lv_put_in_by G 60 60).mono (by omega))
  have next := cal_next_by (L := 122) G TE (n := 60) (out.mono (by omega)) (place.mono (by omega)) (part.mono (by omega)) (words.mono (by omega)) ((lv_length_by G 60).mono (by omega)) (called.mono (by omega)) (made.mono (by omega)) ((lv_replaced_by G 60).mono (by omega))
  have nt := cal_next_tidied (L := 123) G TE (n := 60) (by omega) (words.mono (by omega)) (next.mono (by omega)) (fit.mono (by omega)) (tidy.mono (by omega))
  exact cal_go_onP (L := 124) G (chk.mono (by omega)) (chkn.mono (by omega)) (tidy.mono (by omega)) (nt.mono (by omega))
theorem lv__law_length (G : Glb K mg) : ∀ n : Nat, Cal P w K mg base (n + 1) "_law_length" (T_len n) []
  | 0 => cal_zeroN (ps := ["_law_book", "_law_term"]) G.d__law_length (fun _ _ _ _ _ _ us hl => match us, hl with | [_, _], _ => rfl) (fun xs M Q h => by obtain ⟨t, _, hd, _⟩ := h; exact no_dep hd)
  | n + 1 => step__law_length G (cal__law_names G) (lv__law_length G n)
theorem lv__law_depth (G : Glb K mg) : ∀ n : Nat, Cal P w K mg base n "_law_depth" (S_dep n) []
  | 0 => cal_zeroN (ps := ["_law_term"]) G.d__law_depth (fun _ _ _ _ _ _ us hl => match us, hl with | [_], _ => rfl) (fun xs M Q h => by obtain ⟨t, _, hd, _⟩ := h; exact no_dep hd)
  | n + 1 => step__law_depth G (lv__law_depth G n)
theorem lv__law_led (G : Glb K mg) : ∀ n : Nat, Cal P w K mg base (n + 1) "_law_led" (T_led n) []
  | 0 => cal_zeroN (ps := ["_law_book", "_law_term", "_law_ways", "_law_by", "_law_deep"]) G.d__law_led (fun _ _ _ _ _ _ us hl => match us, hl with | [_, _, _, _, _], _ => rfl) (fun xs M Q h => by obtain ⟨t, d, b, _, _, hd, _⟩ := h; exact no_dep hd)
  | n + 1 => step__law_led G (cal__law_way G) (cal__law_names G) (lv__law_led G n)
theorem lv__law_put_in (G : Glb K mg) (m : Nat) : ∀ n : Nat, Cal P w K mg base (n + (m + 1)) "_law_put_in" (T_put n m) []
  | 0 => cal_zeroN (ps := ["_law_book", "_law_term", "_law_parts", "_law_deep"]) G.d__law_put_in (fun _ _ _ _ _ _ us hl => match us, hl with | [_, _, _, _], _ => rfl) (fun xs M Q h => by obtain ⟨t, gs, d, _, _, _, hd, _⟩ := h; exact no_dep hd)
  | n + 1 => by
    have e : n + 1 + (m + 1) = n + (m + 1) + 1 := by omega
    rw [e]
    exact step__law_put_in G (by omega) (cal__law_names G) (lv__law_led G m) (lv__law_put_in G m n)
theorem lv__law_is_value (G : Glb K mg) : ∀ n : Nat, Cal P w K mg base n "_law_is_value" (S_isval n) []
  | 0 => cal_zeroN (ps := ["_law_term"]) G.d__law_is_value (fun _ _ _ _ _ _ us hl => match us, hl with | [_], _ => rfl) (fun xs M Q h => by obtain ⟨t, _, hd, _⟩ := h; exact no_dep hd)
  | n + 1 => step__law_is_value G (lv__law_is_value G n)
theorem lv__law_replaced (G : Glb K mg) : ∀ n : Nat, Cal P w K mg base n "_law_replaced" (S_repl n) []
  | 0 => cal_zeroN (ps := ["_law_term", "_law_place_here", "_law_part_here"]) G.d__law_replaced (fun _ _ _ _ _ _ us hl => match us, hl with | [_, _, _], _ => rfl) (fun xs M Q h => by obtain ⟨t, pl, r, u, _, hd, _⟩ := h; exact absurd hd (Nat.not_lt_zero _))
  | n + 1 => step__law_replaced G (lv__law_replaced G n)
theorem lv__law_ats (G : Glb K mg) : ∀ n : Nat, Cal P w K mg base n "_law_ats" (T_ats n) []
  | 0 => cal_zeroN (ps := ["_law_term", "_law_found"]) G.d__law_ats (fun _ _ _ _ _ _ us hl => match us, hl with | [_, _], _ => rfl) (fun xs M Q h => by obtain ⟨t, p, ks, m, d, _, _, _, _, _, hd, _⟩ := h; exact no_dep hd)
  | n + 1 => step__law_ats G (lv__law_ats G n)
theorem lv__law_renumbered (G : Glb K mg) : ∀ n : Nat, Cal P w K mg base n "_law_renumbered" (T_renum n) []
  | 0 => cal_zeroN (ps := ["_law_term", "_law_order"]) G.d__law_renumbered (fun _ _ _ _ _ _ us hl => match us, hl with | [_, _], _ => rfl) (fun xs M Q h => by obtain ⟨t, p, ks, _, _, _, hd, _⟩ := h; exact no_dep hd)
  | n + 1 => step__law_renumbered G (lv__law_renumbered G n)
theorem lv__law_same (G : Glb K mg) : ∀ n : Nat, Cal P w K mg base n "_law_same" (T_same n) []
  | 0 => cal_zeroN (ps := ["_law_told", "_law_due"]) G.d__law_same (fun _ _ _ _ _ _ us hl => match us, hl with | [_, _], _ => rfl) (fun xs M Q h => by obtain ⟨d, _, _, _, hd, _⟩ := h; exact absurd hd (Nat.not_lt_zero _))
  | n + 1 => step__law_same G (lv__law_same G n)
theorem need_pos : ∀ k ∈ kinds, 1 ≤ need k := by decide +kernel
theorem lv__law_leaf (G : Glb K mg) : ∀ n : Nat, Cal P w K mg base (n + 2) "_law_leaf" (T_leaf n) []
  | 0 => cal_zeroN (ps := ["_law_well_here", "_law_kind", "_law_seen", "_law_many"]) G.d__law_leaf (fun _ _ _ _ _ _ us hl => match us, hl with | [_, _, _, _], _ => rfl) (fun xs M Q h => by obtain ⟨p, k, ss, m, _, _, hk, hn, _⟩ := h; have := need_pos k hk; omega)
  | n + 1 => step__law_leaf G (cal__law_draw G) (cal__law_pick G (cal__law_draw G)) (cal_pickL G (cal__law_draw G)) (cal__law_number G (cal__law_draw G)) (lv__law_leaf G n)
theorem lv__law_again (G : Glb K mg) : Cal P w K mg base 5 "_law_again" T_again [] := cal__law_again G (cal__law_draw G) (cal__law_pick G (cal__law_draw G)) (lv__law_leaf G 2)
theorem lv__law_part (G : Glb K mg) : ∀ n : Nat, Cal P w K mg base (2 * n + 6) "_law_part" (T_part n) []
  | 0 => cal_zeroN (ps := ["_law_well_here", "_law_kind", "_law_seen", "_law_many", "_law_left"]) G.d__law_part (fun _ _ _ _ _ _ us hl => match us, hl with | [_, _, _, _, _], _ => rfl) (fun xs M Q h => by obtain ⟨p, l, k, ss, m, u, e, _, _, _, _, _, hu, _⟩ := h; exact absurd hu (Nat.not_lt_zero _))
  | n + 1 => step__law_part G (cal__law_draw G) (cal__law_pick G (cal__law_draw G)) (lv__law_leaf G 2) (lv__law_again G) (step__law_sum G (cal__law_draw G) (cal__law_pick G (cal__law_draw G)) (lv__law_part G n)) (lv__law_part G n)
theorem lv__law_value (G : Glb K mg) : ∀ n : Nat, Cal P w K mg base (n + 12) "_law_value" (T_value n) []
  | 0 => cal_zeroN (ps := ["_law_well_here", "_law_many", "_law_deep"]) G.d__law_value (fun _ _ _ _ _ _ us hl => match us, hl with | [_, _, _], _ => rfl) (fun xs M Q h => by obtain ⟨p, m, d, _, _, _, hd, _⟩ := h; exact absurd hd (Nat.not_lt_zero _))
  | n + 1 => step__law_value G (cal__law_draw G) (cal__law_number G (cal__law_draw G)) (lv__law_again G) (lv__law_part G 3) (lv__law_value G n)
theorem lv__law_place (G : Glb K mg) : ∀ n : Nat, n ≤ 60 → Cal P w K mg base (n + 60) "_law_place" (S_place n) []
  | 0, _ => cal_zeroN (ps := ["_law_term"]) G.d__law_place (fun _ _ _ _ _ _ us hl => match us, hl with | [_], _ => rfl) (fun xs M Q h => by obtain ⟨t, _, _, hd, _⟩ := h; exact no_dep hd)
  | n + 1, hn => by
    have e : n + 1 + 60 = n + 60 + 1 := by omega
    rw [e]
    exact step__law_place G (by omega) ((lv__law_is_value G (n + 1)).mono hn) (lv__law_place G n (by omega))
theorem lv__law_program (G : Glb K mg) : Cal P w K mg base 23 "_law_program" T_prog [] := cal__law_program G (cal__law_draw G) (cal__law_pick G (cal__law_draw G)) (cal__law_loop G (cal__law_draw G) (cal__law_turn G (cal__law_draw G))) (lv__law_part G 8) (lv__law_value G 3)
theorem lv__law_jumbled (G : Glb K mg) : Cal P w K mg base 121 "_law_jumbled" T_jum [] := cal__law_jumbled G (by omega) (cal__law_draw G) ((lv__law_value G 3).mono (by omega)) (lv__law_renumbered G 120)
theorem lv__law_gone (G : Glb K mg) : Cal P w K mg base 124 "_law_gone" T_gone [] := by
  have tidy := cal__law_tidied (L := 121) (n := 120) G (cal__law_met (P := P) (w := w) (base := base) G (lv__law_ats G 120)) ((lv__law_renumbered G 120).mono (by omega))
  have here := cal__law_here (L := 121) (n := 60) G (by omega) (lv__law_put_in (P := P) (w := w) (base := base) G 60 60) (cal__law_reckoned G)
  have next := cal__law_next (L := 122) (n := 60) G ((lv__law_place G 60 (by omega)).mono (by omega)) tidy here ((cal__law_part_at G).mono (by omega)) ((lv__law_replaced G 60).mono (by omega))
  have great := cal__law_is_great (L := 121) (n := 120) G (lv__law_length (P := P) (w := w) (base := base) G 120) ((lv__law_depth G 120).mono (by omega))
  exact cal__law_gone (L := 123) G (tidy.mono (by omega)) next (great.mono (by omega))
end
end FS
set_option maxHeartbeats 4000000
/-! The head: facts by names. -/
namespace FS
open PySem PySem.Spec PyProof.Rows L2
theorem hCore_eq : hCore = coreTab := rfl
theorem hLook_eq : hLook = lookTab := rfl
theorem ktB_ok {K : PySem.W.Frag} {a : Addr} {ns : List Int} (h : ktB K a ns = true) : KTup K a (ns.map V.int) := fun H => by
  unfold ktB at h
  split at h
  · rename_i c d us n sl e
    obtain ⟨h1, h2⟩ := He.ba h
    obtain ⟨rfl, h4⟩ := of_decide_eq_true h1
    exact .inr ⟨_, us, n, e, rfl, rfl, h4, He.relAll_ok h2⟩
  · cases h
theorem coreAll_ok {K : PySem.W.Frag} : ∀ {es : List DictEntry} {qs : List (Str × List Int)}, coreAll K es qs = true → Paired (fun (e : DictEntry) (q : Str × List Int) => (∃ t, e.key = .str q.1 t) ∧ ∃ a, e.val = .ref a ∧ KTup K a (q.2.map .int)) es qs
  | [], [], _ => .nil
  | [], _ :: _, h => by cases h
  | _ :: _, [], h => by cases h
  | e :: es, q :: qs, h => by
    unfold coreAll at h
    obtain ⟨h1, h2⟩ := He.ba h
    refine .cons ?_ (coreAll_ok h2)
    split at h1
    · rename_i z t a e1 e2
      obtain ⟨h3, h4⟩ := He.ba h1
      exact ⟨⟨t, by rw [e1, of_decide_eq_true h3]⟩, a, e2, ktB_ok h4⟩
    · cases h1
section
variable {w : World} {h : Heap} {K : PySem.W.Frag} {mg : Str → Option Value} {fa : List He.Fa} {fn : List He.DefD}
theorem dat_of (X : K.In h) (N : h.Ns mainGlobals mg) (c : He.SaysD fa fn K) {x : Str} {st : Stmt} {l : List He.Dv} {ds : List V} (i j : Nat) (hf : fa[i]? = some (.glo x)) (hd : fn[j]? = some (dd x st l)) (e : l.map (He.Dv.v K) = ds) : DefAt K mg x st ds := by
  obtain ⟨fd, F⟩ := c.def_ j hd
  subst e
  exact ⟨_, fd, F, He.glo_ok X N (c.fact i hf)⟩
theorem int_of (X : K.In h) (N : h.Ns mainGlobals mg) {x : Str} {i : Int} (c : (He.Fa.int x i).ok K = true) : ∃ u, mg x = some u ∧ RelV (.int i) u := by
  obtain ⟨t, e⟩ := He.int_ok X N c
  exact ⟨_, e, t, rfl⟩
theorem leaves_of (e : exB K = true) (H : Hp) : DAt K H (.ref (He.ga K "LEAVES")) (.tup leaves) := by
  obtain ⟨h1, _⟩ := He.ba e
  exact .tup (He.tupB_ok h1 H) (.cons (.str _) (.cons (.str _) (.cons (.str _) (.cons (.str _) .nil))))
theorem core_of (c : ∃ es n, KDict K w (He.ga K "CORE") es n) (e : exB K = true) : CoreW K w (He.ga K "CORE") := by
  obtain ⟨es, n, D⟩ := c
  obtain ⟨_, h2⟩ := He.ba e
  obtain ⟨h3, _⟩ := He.ba h2
  unfold coreB at h3
  rw [D.at_] at h3
  exact ⟨es, n, D, coreAll_ok h3⟩
theorem lookup_mem {z : Str} {ns : List Int} : ∀ {l : List (Str × List Int)}, l.lookup z = some ns → (z, ns) ∈ l
  | [], h => by cases h
  | (a, b) :: l, h => by
    by_cases q : z = a
    · subst q
      simp at h
      subst h
      exact List.mem_cons_self ..
    · have : (z == a) = false := by simpa using q
      rw [List.lookup_cons, this] at h
      exact List.mem_cons_of_mem _ (lookup_mem h)
theorem look_of (c : ∃ es n, KDict K w (He.ga K "LOOKED_AT") es n) (e : exB K = true) : LookW K w (He.ga K "LOOKED_AT") := fun z ns hz => by
  obtain ⟨es, n, D⟩ := c
  obtain ⟨_, h2⟩ := He.ba e
  obtain ⟨_, h3⟩ := He.ba h2
  have h4 := List.all_eq_true.mp h3 _ (lookup_mem hz)
  split at h4
  · rename_i a ea
    exact ⟨a, ⟨es, n, _, D.at_, D.lit, ea, rfl⟩, ktB_ok h4⟩
  · cases h4
end
section
variable {w : World} {h : Heap} {K : PySem.W.Frag} {mg : Str → Option Value}
theorem glb_of (X : K.In h) (N : h.Ns mainGlobals mg) (c : He.SaysD fa fn K) (e : exB K = true) : Glb K mg where
  d_words_of := dat_of X N c 0 0 rfl rfl rfl
  d_length_by := dat_of X N c 1 1 rfl rfl rfl
  d_depth_by := dat_of X N c 2 2 rfl rfl rfl
  d_parts_with_names := dat_of X N c 3 3 rfl rfl rfl
  d_names_met := dat_of X N c 4 4 rfl rfl rfl
  d_free_by := dat_of X N c 5 5 rfl rfl rfl
  d_ats_met := dat_of X N c 6 6 rfl rfl rfl
  d_ats_by := dat_of X N c 7 7 rfl rfl rfl
  d_led_name := dat_of X N c 8 8 rfl rfl rfl
  d_led_by := dat_of X N c 9 9 rfl rfl rfl
  d_put_in_by := dat_of X N c 10 10 rfl rfl rfl
  d_put_length := dat_of X N c 11 11 rfl rfl rfl
  d_put_depth := dat_of X N c 12 12 rfl rfl rfl
  d_part_by := dat_of X N c 13 13 rfl rfl rfl
  d_replaced_by := dat_of X N c 14 14 rfl rfl rfl
  d_ats_led_by := dat_of X N c 15 15 rfl rfl rfl
  d_is_value_by := dat_of X N c 16 16 rfl rfl rfl
  d_is_whole := dat_of X N c 17 17 rfl rfl rfl
  d_is_count := dat_of X N c 18 18 rfl rfl rfl
  d_is_number := dat_of X N c 19 19 rfl rfl rfl
  d_is_leaf := dat_of X N c 20 20 rfl rfl rfl
  d_is_patterned := dat_of X N c 21 21 rfl rfl rfl
  d_is_closed_term := dat_of X N c 22 22 rfl rfl rfl
  d_is_sourced := dat_of X N c 23 23 rfl rfl rfl
  d_is_programmed := dat_of X N c 24 24 rfl rfl rfl
  d_are_fitting := dat_of X N c 25 25 rfl rfl rfl
  d_check_program := dat_of X N c 26 26 rfl rfl rfl
  d_check_number := dat_of X N c 27 27 rfl rfl rfl
  d_met_by := dat_of X N c 28 28 rfl rfl rfl
  d_tidied_by := dat_of X N c 29 29 rfl rfl rfl
  d_place_by := dat_of X N c 30 30 rfl rfl rfl
  d_summed := dat_of X N c 31 31 rfl rfl rfl
  d_fault_of := dat_of X N c 32 32 rfl rfl rfl
  d_called := dat_of X N c 33 33 rfl rfl rfl
  d_made := dat_of X N c 34 34 rfl rfl rfl
  d_outcome_by := dat_of X N c 35 35 rfl rfl rfl
  d_next_by := dat_of X N c 36 36 rfl rfl rfl
  d_next_tidied := dat_of X N c 37 37 rfl rfl rfl
  d_go_on := dat_of X N c 38 38 rfl rfl rfl
  d__law_well := dat_of X N c 39 39 rfl rfl rfl
  d__law_draw := dat_of X N c 40 40 rfl rfl rfl
  d__law_pick := dat_of X N c 41 41 rfl rfl rfl
  d__law_same := dat_of X N c 42 42 rfl rfl rfl
  d__law_names := dat_of X N c 43 43 rfl rfl rfl
  d__law_length := dat_of X N c 44 44 rfl rfl rfl
  d__law_depth := dat_of X N c 45 45 rfl rfl rfl
  d__law_is_great := dat_of X N c 46 46 rfl rfl rfl
  d__law_way := dat_of X N c 47 47 rfl rfl rfl
  d__law_led := dat_of X N c 48 48 rfl rfl rfl
  d__law_put_in := dat_of X N c 49 49 rfl rfl rfl
  d__law_part_at := dat_of X N c 50 50 rfl rfl rfl
  d__law_replaced := dat_of X N c 51 51 rfl rfl rfl
  d__law_ats := dat_of X N c 52 52 rfl rfl rfl
  d__law_met := dat_of X N c 53 53 rfl rfl rfl
  d__law_renumbered := dat_of X N c 54 54 rfl rfl rfl
  d__law_tidied := dat_of X N c 55 55 rfl rfl rfl
  d__law_is_value := dat_of X N c 56 56 rfl rfl rfl
  d__law_place := dat_of X N c 57 57 rfl rfl rfl
  d__law_reckoned := dat_of X N c 58 58 rfl rfl rfl
  d__law_here := dat_of X N c 59 59 rfl rfl rfl
  d__law_next := dat_of X N c 60 60 rfl rfl rfl
  d__law_number := dat_of X N c 61 61 rfl rfl rfl
  d__law_leaf := dat_of X N c 62 62 rfl rfl rfl
  d__law_again := dat_of X N c 63 63 rfl rfl rfl
  d__law_part := dat_of X N c 64 64 rfl rfl rfl
  d__law_sum := dat_of X N c 65 65 rfl rfl rfl
  d__law_turn := dat_of X N c 66 66 rfl rfl rfl
  d__law_loop := dat_of X N c 67 67 rfl rfl rfl
  d__law_value := dat_of X N c 68 68 rfl rfl rfl
  d__law_program := dat_of X N c 69 69 rfl rfl rfl
  d__law_jumbled := dat_of X N c 70 70 rfl rfl rfl
  d__law_tried := dat_of X N c 71 71 rfl rfl rfl
  d__law_gone := dat_of X N c 72 72 rfl rfl rfl
  d_law := dat_of X N c 73 73 rfl rfl rfl
  b_len := He.free_ok X N (c.fact 74 rfl)
  b_sum := He.free_ok X N (c.fact 75 rfl)
  b_max := He.free_ok X N (c.fact 76 rfl)
  b_all := He.free_ok X N (c.fact 77 rfl)
  b_any := He.free_ok X N (c.fact 78 rfl)
  b_abs := He.free_ok X N (c.fact 79 rfl)
  b_divmod := He.free_ok X N (c.fact 80 rfl)
  b_isinstance := He.free_ok X N (c.fact 81 rfl)
  b_int := He.free_ok X N (c.fact 82 rfl)
  b_tuple := He.free_ok X N (c.fact 83 rfl)
  b_list := He.free_ok X N (c.fact 84 rfl)
  b_range := He.free_ok X N (c.fact 85 rfl)
  b_zip := He.free_ok X N (c.fact 86 rfl)
  b_enumerate := He.free_ok X N (c.fact 87 rfl)
  b_dict := He.free_ok X N (c.fact 88 rfl)
  b_sorted := He.free_ok X N (c.fact 89 rfl)
  b_bool := He.free_ok X N (c.fact 90 rfl)
  b_str := He.free_ok X N (c.fact 91 rfl)
  k_MOST_NUMBER := int_of X N (c.fact 92 rfl)
  k_MOST_LENGTH := int_of X N (c.fact 93 rfl)
  k_MOST_DEPTH := int_of X N (c.fact 94 rfl)
  k_LEAVES := ⟨_, He.glo_ok X N (c.fact 97 rfl), leaves_of e⟩
theorem glbW_of (X : K.In h) (N : h.Ns mainGlobals mg) (c : He.SaysT fa fn ts w K) (e : exB K = true) : GlbW K w mg where
  k_CORE := ⟨_, He.glo_ok X N (c.d.fact 95 rfl), core_of (c.tab 0) e⟩
  k_LOOK := ⟨_, He.glo_ok X N (c.d.fact 96 rfl), look_of (c.tab 1) e⟩
theorem excT_of (X : K.In h) (N : h.Ns mainGlobals mg) (c : He.SaysD fa fn K) : ExcT K mg "TooGreat" (He.ga K "TooGreat") := by
  obtain ⟨h1, h2, h3, h4⟩ := He.exc_ok (c.fact 99 rfl)
  exact ⟨He.glo_ok X N (c.fact 98 rfl), h1, h2, h3, h4, He.exm_ok (c.fact 100 rfl)⟩
theorem law_def (c : He.SaysD fa fn K) : ∃ fd, FnP K "law" s_law [] (He.fAd K ("law", none)) fd := c.def_ 73 rfl
theorem law_glo (X : K.In h) (N : h.Ns mainGlobals mg) (c : He.SaysD fa fn K) : mg "law" = some (.ref (He.fAd K ("law", none))) := He.glo_ok X N (c.fact 73 rfl)
end
end FS
set_option maxHeartbeats 0
/-! The end. -/
namespace FS
open PySem PySem.Spec PyProof.Rows L2
theorem law_at {w : World} {mg : Str → Option Value} {fa' : Addr} {h : Heap} {K : PySem.W.Frag} (X : K.In h) (c : He.SaysX fa fn ts tf exB w h K) (N : h.Ns mainGlobals mg) (e : mg "law" = some (.ref fa')) :
    LamX.LawAtS PySem.Challenge.rw_formstead_k24_whole_n_steps_and_m_steps w K (L2.CX PySem.Challenge.rw_formstead_k24_whole_n_steps_and_m_steps.prog w) 128 63 "_law_script" mg fa' h := by
  obtain ⟨fd, F⟩ := law_def c.t.d
  have eg := law_glo X N c.t.d
  rw [eg] at e
  cases e
  have m0 : (("law", none) : He.Defn) ∈ tf := List.mem_singleton.mpr rfl
  refine ⟨fd, [He.cT K ("law", none)], spLaw K, fun p hp => ?_, fun p hp => ?_, fun p hp => ?_, ?_, ?_, ?_⟩
  · rw [List.mem_singleton.mp hp]
    exact c.empty _ m0
  · rw [List.mem_singleton.mp hp]
    exact c.out _ m0
  · rw [List.mem_singleton.mp hp]
    exact PySem.W.codeHd_of_K X (c.hd _ m0)
  · have b := FunD.bindsA (ps := ["_law_script"]) F fun _ _ _ _ _ _ us hl => match us, hl with | [_], _ => rfl
    exact fun s u => b s [u] rfl
  · intro H a ns hn _ hT hS
    refine ⟨a, ns, rfl, hS, hn, fun p hp => ?_, fun _ => rfl⟩
    rw [List.mem_singleton.mp hp]
    exact LamX.TabS.nil (hT _ (List.mem_singleton.mpr rfl))
  · intro base XB NB hTB
    have G := glb_of XB NB c.t.d c.more
    have GW := glbW_of XB NB c.t c.more
    have TE := excT_of XB NB c.t.d
    exact ok_law (L := 125) G TE ((cal__law_wellB G).mono (by omega)) ((lv__law_program G).mono (by omega)) ((lv__law_jumbled G).mono (by omega)) ((cal__law_draw G).mono (by omega)) ((lv__law_gone G).mono (by omega)) ((lv__law_same G 65).mono (by omega)) (lv_go_on G GW TE) F rfl (hTB _ (List.mem_singleton.mpr rfl))
end FS
open PySem PySem.W PySem.Calls PyProof.Rows
theorem PySem.Challenge.cw_formstead_k24_whole_n_steps_and_m_steps_holds : PySem.Challenge.rw_formstead_k24_whole_n_steps_and_m_steps.Holds := by
  w_on; o_law
  refine HandSHeadRun.head_any (r := FS.RR) (q := view FS.RR.prog [92]) (H := FS.hk) (ob := FS.ob) (M := 9000) (loose := FS.loose) (d := HandSHeadRun.topDef FS.RR.prog 92) (kwd := []) FS.ob_eq
    (by kernel_rfl) (fun s => by kernel_rfl) FS.runH (by kernel_rfl) (by kernel_rfl) (by kernel_rfl) (by rfl) (by first | assumption | decide +kernel) (by decide +kernel) ⟨rfl, rfl, rfl, rfl, rfl, by decide +kernel⟩ ?hw ?hc
  case hw => w_witness2
  case hc =>
    refine LamX.walk_ofTsE (l := PySem.Challenge.rw_formstead_k24_whole_n_steps_and_m_steps) (n := 63) (k := 128) (x := "_law_script") (CX := fun w => L2.CX PySem.Challenge.rw_formstead_k24_whole_n_steps_and_m_steps.prog w) rfl (by decide) (by kernel_rfl) ⟨rfl, by decide, by decide⟩ ?F (fun w H s e s' z => ?_)
    · intro w mg fa h Y N hmg0
      obtain ⟨K, KX, c⟩ := Y
      have hmg : mg ("law" : PySem.Str) = some (.ref fa) := by
        have e : (HandSHeadRun.topDef FS.RR.prog 92).name = ("law" : PySem.Str) := by kernel_rfl
        rw [← e]
        exact hmg0
      exact ⟨K, KX, FS.law_at KX c N hmg⟩
    · obtain ⟨_, _, _, _, _, _, _, _, _, _, _, _, z⟩ := z
      exact z.elim
