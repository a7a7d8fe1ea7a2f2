import PyProof.Rows.All
import Wide.All
import OpenK.AllK
import Wide.FinOn
import HandS.Words
import HandS.Defaults
import HandS.Head0
import HandS.Head1
import HandS.Head2
import HandS.HeadEnd
import HandS.HeadHook1
import HandS.HeadHook2
import HandS.HeadHook3
import HandS.HeadHook4
import HandS.HeadWalk
import HandS.ForMost
import HandS.Flow
import HandS.Conv
import HandS.Exc
import HandS.TryOnly
import HandS.Nested
import HandS.NestedK
import HandS.SortKw
import HandS.Style
import KE.KDictKeyed
import HandS.IsInst
import HandS.Call
import HandS.Set
import HandS.SetFor
import PyProof.Rows.SortShellAny
import PyProof.Rows.SortStr
import HandS.Strs
import HandS.Wide
import HandS.Deep
import KE.SortData
import KE.DataMinMax
import PyProof.EnumMake
import PyProof.EnumFor
import PyProof.Draws
import PySem.Challenge.RW_triesgrow_k38_whole_a_machine_of_sets
set_option Elab.async false
set_option linter.all false
set_option maxRecDepth 100000
set_option maxHeartbeats 0
namespace Gm
open PySem PySem.Spec PyProof.Rows L2
def topS (i : Nat) : Stmt := PySem.Challenge.pw_triesgrow_k38_whole_a_machine_of_sets.main.body.getD i (.Pass ⟨0, 0, 0, 0⟩)
def dd__law_handS : He.DefD := ⟨("_law_hand", none), "_law_hand", "_law_hand", defArgs (topS 71), defBody (topS 71), defScope (topS 71), [], []⟩
def dd__law_draw : He.DefD := ⟨("_law_draw", none), "_law_draw", "_law_draw", defArgs (topS 72), defBody (topS 72), defScope (topS 72), [], []⟩
def dd__law_rooms : He.DefD := ⟨("_law_rooms", none), "_law_rooms", "_law_rooms", defArgs (topS 73), defBody (topS 73), defScope (topS 73), [], []⟩
def dd__law_machine : He.DefD := ⟨("_law_machine", none), "_law_machine", "_law_machine", defArgs (topS 74), defBody (topS 74), defScope (topS 74), [], []⟩
def dd_is_whole : He.DefD := ⟨("is_whole", none), "is_whole", "is_whole", defArgs (topS 14), defBody (topS 14), defScope (topS 14), [], []⟩
def dd_is_within : He.DefD := ⟨("is_within", none), "is_within", "is_within", defArgs (topS 15), defBody (topS 15), defScope (topS 15), [], []⟩
def dd_look_at_rooms : He.DefD := ⟨("look_at_rooms", none), "look_at_rooms", "look_at_rooms", defArgs (topS 16), defBody (topS 16), defScope (topS 16), [], []⟩
def dd_is_sign : He.DefD := ⟨("is_sign", none), "is_sign", "is_sign", defArgs (topS 10), defBody (topS 10), defScope (topS 10), [], []⟩
def dd_is_step : He.DefD := ⟨("is_step", none), "is_step", "is_step", defArgs (topS 17), defBody (topS 17), defScope (topS 17), [], []⟩
def dd_look_at_steps : He.DefD := ⟨("look_at_steps", none), "look_at_steps", "look_at_steps", defArgs (topS 18), defBody (topS 18), defScope (topS 18), [], []⟩
def dd_look_at : He.DefD := ⟨("look_at", none), "look_at", "look_at", defArgs (topS 19), defBody (topS 19), defScope (topS 19), [], []⟩
def dd_look_at_most : He.DefD := ⟨("look_at_most", none), "look_at_most", "look_at_most", defArgs (topS 25), defBody (topS 25), defScope (topS 25), [], []⟩
def dd_signs_of_sets : He.DefD := ⟨("signs_of_sets", none), "signs_of", "signs_of", defArgs (topS 26), defBody (topS 26), defScope (topS 26), [], []⟩
def dd_set_by : He.DefD := ⟨("set_by", none), "set_by", "set_by", defArgs (topS 28), defBody (topS 28), defScope (topS 28), [], []⟩
def dd_rooms_text : He.DefD := ⟨("rooms_text", none), "rooms_text", "rooms_text", defArgs (topS 22), defBody (topS 22), defScope (topS 22), [], []⟩
def dd_sets_of : He.DefD := ⟨("sets_of", none), "sets_of", "sets_of", defArgs (topS 29), defBody (topS 29), defScope (topS 29), [.int 400], []⟩
def dd_look_at_word : He.DefD := ⟨("look_at_word", none), "look_at_word", "look_at_word", defArgs (topS 64), defBody (topS 64), defScope (topS 64), [], []⟩
def dd_look_at_room : He.DefD := ⟨("look_at_room", none), "look_at_room", "look_at_room", defArgs (topS 20), defBody (topS 20), defScope (topS 20), [], []⟩
def dd_sum_at : He.DefD := ⟨("sum_at", none), "sum_at", "sum_at", defArgs (topS 68), defBody (topS 68), defScope (topS 68), [], []⟩
def dd_moved : He.DefD := ⟨("moved", none), "moved", "moved", defArgs (topS 66), defBody (topS 66), defScope (topS 66), [], []⟩
def dd_moved_by : He.DefD := ⟨("moved_by", none), "moved_by", "moved_by", defArgs (topS 67), defBody (topS 67), defScope (topS 67), [], []⟩
def dd_alone_at : He.DefD := ⟨("alone_at", none), "alone_at", "alone_at", defArgs (topS 65), defBody (topS 65), defScope (topS 65), [], []⟩
def dd_ways : He.DefD := ⟨("ways", none), "ways", "ways", defArgs (topS 69), defBody (topS 69), defScope (topS 69), [.non, .non], []⟩
def dd__law_led : He.DefD := ⟨("_law_led", none), "_law_led", "_law_led", defArgs (topS 76), defBody (topS 76), defScope (topS 76), [], []⟩
def dd__law_after : He.DefD := ⟨("_law_after", none), "_law_after", "_law_after", defArgs (topS 78), defBody (topS 78), defScope (topS 78), [], []⟩
def dd__law_fit : He.DefD := ⟨("_law_fit", none), "_law_fit", "_law_fit", defArgs (topS 79), defBody (topS 79), defScope (topS 79), [], []⟩
def dd__law_made : He.DefD := ⟨("_law_made", none), "_law_made", "_law_made", defArgs (topS 81), defBody (topS 81), defScope (topS 81), [], []⟩
def dd__law_words : He.DefD := ⟨("_law_words", none), "_law_words", "_law_words", defArgs (topS 82), defBody (topS 82), defScope (topS 82), [], []⟩
def dd__law_signs : He.DefD := ⟨("_law_signs", none), "_law_signs", "_law_signs", defArgs (topS 75), defBody (topS 75), defScope (topS 75), [], []⟩
def dd__law_word : He.DefD := ⟨("_law_word", none), "_law_word", "_law_word", defArgs (topS 80), defBody (topS 80), defScope (topS 80), [], []⟩
def dd_come_to : He.DefD := ⟨("come_to", none), "come_to", "come_to", defArgs (topS 31), defBody (topS 31), defScope (topS 31), [], []⟩
def dd_useful : He.DefD := ⟨("useful", none), "useful", "useful", defArgs (topS 32), defBody (topS 32), defScope (topS 32), [], []⟩
def dd_by_signs : He.DefD := ⟨("by_signs", none), "by_signs", "by_signs", defArgs (topS 36), defBody (topS 36), defScope (topS 36), [], []⟩
def dd_trimmed : He.DefD := ⟨("trimmed", none), "trimmed", "trimmed", defArgs (topS 33), defBody (topS 33), defScope (topS 33), [], []⟩
def dd_first_text : He.DefD := ⟨("first_text", none), "first_text", "first_text", defArgs (topS 37), defBody (topS 37), defScope (topS 37), [], []⟩
def dd_double_text : He.DefD := ⟨("double_text", none), "double_text", "double_text", defArgs (topS 39), defBody (topS 39), defScope (topS 39), [], []⟩
def dd_signs_of_useful : He.DefD := ⟨("signs_of_useful", none), "signs_of", "signs_of", defArgs (topS 34), defBody (topS 34), defScope (topS 34), [], []⟩
def dd_double_rounds : He.DefD := ⟨("double_rounds", none), "double_rounds", "double_rounds", defArgs (topS 42), defBody (topS 42), defScope (topS 42), [], []⟩
def dd_led_text_rounds : He.DefD := ⟨("led_text_rounds", none), "led_text", "led_text", defArgs (topS 40), defBody (topS 40), defScope (topS 40), [], []⟩
def dd_led_rounds : He.DefD := ⟨("led_rounds", none), "led_rounds", "led_rounds", defArgs (topS 43), defBody (topS 43), defScope (topS 43), [], []⟩
def dd_raised : He.DefD := ⟨("raised", none), "raised", "raised", defArgs (topS 45), defBody (topS 45), defScope (topS 45), [], []⟩
def dd_ranks : He.DefD := ⟨("ranks", none), "ranks", "ranks", defArgs (topS 46), defBody (topS 46), defScope (topS 46), [], []⟩
def dd_greatest_rank : He.DefD := ⟨("greatest_rank", none), "greatest_rank", "greatest_rank", defArgs (topS 47), defBody (topS 47), defScope (topS 47), [], []⟩
def dd_growth : He.DefD := ⟨("growth", none), "growth", "growth", defArgs (topS 48), defBody (topS 48), defScope (topS 48), [], []⟩
def dd_is_last : He.DefD := ⟨("is_last", none), "is_last", "is_last", defArgs (topS 52), defBody (topS 52), defScope (topS 52), [], []⟩
def dd_is_parting : He.DefD := ⟨("is_parting", none), "is_parting", "is_parting", defArgs (topS 53), defBody (topS 53), defScope (topS 53), [], []⟩
def dd_both_signs : He.DefD := ⟨("both_signs", none), "both_signs", "both_signs", defArgs (topS 51), defBody (topS 51), defScope (topS 51), [], []⟩
def dd_pairs_of : He.DefD := ⟨("pairs_of", none), "pairs_of", "pairs_of", defArgs (topS 54), defBody (topS 54), defScope (topS 54), [], []⟩
def dd_parting : He.DefD := ⟨("parting", none), "parting", "parting", defArgs (topS 55), defBody (topS 55), defScope (topS 55), [], []⟩
def dd_closed_of : He.DefD := ⟨("closed_of", none), "closed_of", "closed_of", defArgs (topS 56), defBody (topS 56), defScope (topS 56), [.int 400], []⟩
def dd_is_set_text : He.DefD := ⟨("is_set_text", none), "is_set_text", "is_set_text", defArgs (topS 57), defBody (topS 57), defScope (topS 57), [], []⟩
def dd_is_pair : He.DefD := ⟨("is_pair", none), "is_pair", "is_pair", defArgs (topS 58), defBody (topS 58), defScope (topS 58), [], []⟩
def dd_rooms_of : He.DefD := ⟨("rooms_of", none), "rooms_of", "rooms_of", defArgs (topS 59), defBody (topS 59), defScope (topS 59), [], []⟩
def dd_led_text_sameness : He.DefD := ⟨("led_text_sameness", none), "led_text", "led_text", defArgs (topS 60), defBody (topS 60), defScope (topS 60), [], []⟩
def dd_lets_closed : He.DefD := ⟨("lets_closed", none), "lets_closed", "lets_closed", defArgs (topS 62), defBody (topS 62), defScope (topS 62), [], []⟩
def dd__law_right : He.DefD := ⟨("_law_right", none), "_law_right", "_law_right", defArgs (topS 83), defBody (topS 83), defScope (topS 83), [], []⟩
def dd_law : He.DefD := ⟨("law", none), "law", "law", defArgs (topS 84), defBody (topS 84), defScope (topS 84), [], []⟩
def hfn0 : List He.DefD := [dd__law_handS, dd__law_draw, dd__law_rooms, dd__law_machine, dd_is_whole, dd_is_within, dd_look_at_rooms, dd_is_sign, dd_is_step, dd_look_at_steps, dd_look_at, dd_look_at_most, dd_signs_of_sets, dd_set_by, dd_rooms_text, dd_sets_of, dd_look_at_word, dd_look_at_room, dd_sum_at, dd_moved, dd_moved_by, dd_alone_at, dd_ways, dd__law_led, dd__law_after]
def hfn1 : List He.DefD := [dd__law_fit, dd__law_made, dd__law_words, dd__law_signs, dd__law_word, dd_come_to, dd_useful, dd_by_signs, dd_trimmed, dd_first_text, dd_double_text, dd_signs_of_useful, dd_double_rounds, dd_led_text_rounds, dd_led_rounds, dd_raised, dd_ranks, dd_greatest_rank, dd_growth, dd_is_last, dd_is_parting, dd_both_signs, dd_pairs_of, dd_parting, dd_closed_of]
def hfn2 : List He.DefD := [dd_is_set_text, dd_is_pair, dd_rooms_of, dd_led_text_sameness, dd_lets_closed, dd__law_right, dd_law]
def hfn : List He.DefD := hfn0 ++ hfn1 ++ hfn2
def hfa0 : List He.Fa := [.glo "_law_hand", .glo "_law_draw", .glo "_law_rooms", .glo "_law_machine", .glo "is_whole", .glo "is_within", .glo "look_at_rooms", .glo "is_sign", .glo "is_step", .glo "look_at_steps", .glo "look_at", .glo "look_at_most", .glo "signs_of_sets", .glo "set_by", .glo "rooms_text", .glo "sets_of", .glo "look_at_word", .glo "look_at_room", .glo "sum_at", .glo "moved", .glo "moved_by", .glo "alone_at", .glo "ways", .glo "_law_led", .glo "_law_after"]
def hfa1 : List He.Fa := [.glo "_law_fit", .glo "_law_made", .glo "_law_words", .glo "_law_signs", .glo "_law_word", .glo "come_to", .glo "useful", .glo "by_signs", .glo "trimmed", .glo "first_text", .glo "double_text", .glo "signs_of_useful", .glo "double_rounds", .glo "led_text_rounds", .glo "led_rounds", .glo "raised", .glo "ranks", .glo "greatest_rank", .glo "growth", .glo "is_last", .glo "is_parting", .glo "both_signs", .glo "pairs_of", .glo "parting", .glo "closed_of"]
def hfa2 : List He.Fa := [.glo "is_set_text", .glo "is_pair", .glo "rooms_of", .glo "led_text_sameness", .glo "lets_closed", .glo "_law_right", .glo "law", .free "len", .free "isinstance", .free "enumerate", .free "range", .free "sorted", .free "set", .free "tuple", .free "list", .free "dict", .free "str", .free "int", .free "bool", .free "any", .free "all", .free "max", .free "min", .free "sum", .int "MOST_WORD" 400]
def hfa3 : List He.Fa := [.int "MOST_ROOMS" 12, .int "MOST_STEPS" 200, .int "MOST_SETS" 4096, .int "MOST_PAIRS" 4000, .str "LETTERS" "abcdefghijklmnopqrstuvwxyz"]
def hfa : List He.Fa := hfa0 ++ hfa1 ++ hfa2 ++ hfa3
def hns0 : List PySem.Str := ["NoMachine", "NoWord", "NoRoom", "NoNumber", "TooMany", "Parted", "LETTERS", "MOST_WORD", "is_sign", "MOST_ROOMS", "MOST_STEPS", "is_whole", "is_within", "look_at_rooms", "is_step", "look_at_steps", "look_at", "look_at_room", "rooms_text", "MOST_SETS", "look_at_most", "signs_of", "signs_of_sets", "set_by", "sets_of"]
def hns1 : List PySem.Str := ["come_to", "useful", "trimmed", "signs_of_useful", "by_signs", "first_text", "double_text", "led_text", "led_text_rounds", "double_rounds", "led_rounds", "raised", "ranks", "greatest_rank", "growth", "MOST_PAIRS", "both_signs", "is_last", "is_parting", "pairs_of", "parting", "closed_of", "is_set_text", "is_pair", "rooms_of"]
def hns2 : List PySem.Str := ["led_text_sameness", "lets_closed", "look_at_word", "alone_at", "moved", "moved_by", "sum_at", "ways", "_law_hand", "_law_draw", "_law_rooms", "_law_machine", "_law_signs", "_law_led", "_law_rooms_text", "_law_after", "_law_fit", "_law_word", "_law_made", "_law_words", "_law_right"]
def hns : List PySem.Str := hns0 ++ hns1 ++ hns2
def htf : List He.Defn := [("double_text", none), ("led_text_rounds", none)]
def hex (K : PySem.W.Frag) : Bool := !decide ((He.cT K ("double_text", none)).2 = (He.cT K ("led_text_rounds", none)).2)
abbrev hR : PySem.W.OpenRow := PySem.W.OpenLaw.row PySem.Challenge.rw_triesgrow_k38_whole_a_machine_of_sets
abbrev hq : Program := PySem.W.view hR.prog [84]
abbrev hhk : PySem.W.Hook := He.hookX 4 hfa hfn [] htf hex
def hob (s : PySem.W.SharedT) : He.AlX := He.obsX 4 hfa hfn [] htf hex (HandSHeadRun.getT s)
theorem hob_eq (s : PySem.W.SharedT) : hob s = hhk.obs s.abs := He.obsX_eq (HandSHeadRun.getT_eq s)
theorem hrun (w : World) : HandSHeadRun.RunEq hR hq hhk hob 20000 hns w := by
  intro os
  kernel_rfl
end Gm
set_option maxHeartbeats 200000
namespace Gm
open PySem PySem.Spec PyProof.Rows L2

/-! ### data -/
inductive D where
  | non | bl (b : Bool) | int (i : Int) | str (s : Str) | lst (xs : List D) | tup (xs : List D)
  | dI (kvs : List (Int × D)) | dN (kvs : List (D × D))

mutual
/-- the key that data is -/
def kyD : D → NestedKey
  | .bl b => .num (if b = true then 1 else 0)
  | .int i => .num i
  | .str s => .text s
  | .tup ds => .tup (kyDs ds)
  | _ => .none
def kyDs : List D → List NestedKey
  | [] => []
  | d :: ds => kyD d :: kyDs ds
end
mutual
def hsD : D → Bool
  | .non | .bl _ | .int _ | .str _ => true
  | .tup ds => hsDs ds
  | _ => false
def hsDs : List D → Bool
  | [] => true
  | d :: ds => hsD d && hsDs ds
end
/-- data that may be a key -/
def KeyOk (k : D) : Prop := (∃ ds, k = .tup ds) ∧ hsD k = true ∧ (kyD k).depth ≤ 8
/-- a dict with tuples as keys, by its entries -/
def DNo (w : World) (a : Addr) (o : Obj) (xs : List (NestedKey × Addr × Value)) : HO := .ext fun h =>
  (h.get? a = some o ∧ o.ExactDict ∧ ∃ es ep, o.data = .dict es ep ∧ es.toList = xs.map (fun x => (⟨x.1.hash w, .ref x.2.1, x.2.2⟩ : DictEntry)) ∧ (xs.map (·.1)).Nodup) ∧ xs.length ≤ sizeLine ∧ (a == sysModules) = false

mutual
/-- the value v of the heap B is the data d -/
inductive R (w : World) (B : Hp) : V → D → Prop
  | non : R w B .non .non
  | bl (b : Bool) : R w B (.bl b) (.bl b)
  | int (i : Int) : R w B (.int i) (.int i)
  | str (s : Str) : R w B (.str s) (.str s)
  | lst {a : Addr} {xs : List V} {ds : List D} : B a = some (.lst xs) → Rs w B xs ds → R w B (.ref a) (.lst ds)
  | tup {a : Addr} {xs : List V} {ds : List D} : B a = some (.tup xs) → Rs w B xs ds → R w B (.ref a) (.tup ds)
  | dI {a : Addr} {xs : List (Key × V)} {ks : List Int} {ds : List D} : B a = some (.dK xs) → xs.map (·.1) = ks.map Sum.inl → ds.length = ks.length → Rs w B (xs.map (·.2)) ds → R w B (.ref a) (.dI (ks.zip ds))
  | dN {a : Addr} {o : Obj} {xs : List (NestedKey × Addr × Value)} {vs : List V} {ks ds : List D} : B a = some (DNo w a o xs) → xs.map (·.1) = ks.map kyD → (∀ k ∈ ks, KeyOk k) → ds.length = ks.length → Vals vs (xs.map (·.2.2)) → Rs w B (xs.map fun x => V.ref x.2.1) ks → Rs w B vs ds → R w B (.ref a) (.dN (ks.zip ds))
inductive Rs (w : World) (B : Hp) : List V → List D → Prop
  | nil : Rs w B [] []
  | cons {v : V} {d : D} {vs : List V} {ds : List D} : R w B v d → Rs w B vs ds → Rs w B (v :: vs) (d :: ds)
end

abbrev Sb (B B' : Hp) : Prop := ∀ a o, B a = some o → B' a = some o
theorem Sb.refl (B : Hp) : Sb B B := fun _ _ h => h
theorem Sb.trans {A B C : Hp} (h : Sb A B) (k : Sb B C) : Sb A C := fun a o e => k a o (h a o e)

mutual
theorem R.mono {w : World} {B B' : Hp} (h : Sb B B') : ∀ {v : V} {d : D}, R w B v d → R w B' v d
  | _, _, .non => .non
  | _, _, .bl b => .bl b
  | _, _, .int i => .int i
  | _, _, .str s => .str s
  | _, _, .lst e r => .lst (h _ _ e) (Rs.mono h r)
  | _, _, .tup e r => .tup (h _ _ e) (Rs.mono h r)
  | _, _, .dI e k l r => .dI (h _ _ e) k l (Rs.mono h r)
  | _, _, .dN e k1 k2 l l2 rk r => .dN (h _ _ e) k1 k2 l l2 (Rs.mono h rk) (Rs.mono h r)
theorem Rs.mono {w : World} {B B' : Hp} (h : Sb B B') : ∀ {vs : List V} {ds : List D}, Rs w B vs ds → Rs w B' vs ds
  | _, _, .nil => .nil
  | _, _, .cons a b => .cons (R.mono h a) (Rs.mono h b)
end
theorem Rs.length {w : World} {B : Hp} : ∀ {vs : List V} {ds : List D}, Rs w B vs ds → vs.length = ds.length
  | _, _, .nil => rfl
  | _, _, .cons _ b => congrArg Nat.succ b.length
theorem Rs.get {w : World} {B : Hp} : ∀ {vs : List V} {ds : List D} {i : Nat} {v : V}, Rs w B vs ds → vs[i]? = some v → ∃ d, ds[i]? = some d ∧ R w B v d
  | _, _, _, _, .nil, e => by simp at e
  | _, _, 0, _, .cons a _, e => by simp at e; subst e; exact ⟨_, rfl, a⟩
  | _, _, i + 1, _, .cons _ b, e => by
    obtain ⟨d, h1, h2⟩ := Rs.get (i := i) b (by simpa using e)
    exact ⟨d, by simpa using h1, h2⟩
theorem Rs.get' {w : World} {B : Hp} : ∀ {vs : List V} {ds : List D} {i : Nat} {d : D}, Rs w B vs ds → ds[i]? = some d → ∃ v, vs[i]? = some v ∧ R w B v d
  | _, _, _, _, .nil, e => by simp at e
  | _, _, 0, _, .cons a _, e => by simp at e; subst e; exact ⟨_, rfl, a⟩
  | _, _, i + 1, _, .cons _ b, e => by
    obtain ⟨d, h1, h2⟩ := Rs.get' (i := i) b (by simpa using e)
    exact ⟨d, by simpa using h1, h2⟩
theorem Rs.append {w : World} {B : Hp} : ∀ {vs vs' : List V} {ds ds' : List D}, Rs w B vs ds → Rs w B vs' ds' → Rs w B (vs ++ vs') (ds ++ ds')
  | _, _, _, _, .nil, s => s
  | _, _, _, _, .cons a b, s => .cons a (Rs.append b s)
theorem Rs.set {w : World} {B : Hp} {v : V} {d : D} (r : R w B v d) : ∀ {vs : List V} {ds : List D} (i : Nat), Rs w B vs ds → Rs w B (vs.set i v) (ds.set i d)
  | _, _, _, .nil => .nil
  | _, _, 0, .cons _ b => .cons r b
  | _, _, i + 1, .cons a b => .cons a (Rs.set r i b)
theorem Rs.drop {w : World} {B : Hp} : ∀ {vs : List V} {ds : List D} (n : Nat), Rs w B vs ds → Rs w B (vs.drop n) (ds.drop n)
  | _, _, 0, r => r
  | _, _, _ + 1, .nil => .nil
  | _, _, n + 1, .cons _ t => Rs.drop n t
theorem Rs.take {w : World} {B : Hp} : ∀ {vs : List V} {ds : List D} (n : Nat), Rs w B vs ds → Rs w B (vs.take n) (ds.take n)
  | _, _, 0, _ => .nil
  | _, _, _ + 1, .nil => .nil
  | _, _, n + 1, .cons r t => .cons r (Rs.take n t)
theorem Rs.dropLast {w : World} {B : Hp} {vs : List V} {ds : List D} (r : Rs w B vs ds) : Rs w B vs.dropLast ds.dropLast := by
  rw [List.dropLast_eq_take, List.dropLast_eq_take, r.length]
  exact r.take _
theorem Rs.eraseIdx {w : World} {B : Hp} : ∀ {vs : List V} {ds : List D} (n : Nat), Rs w B vs ds → Rs w B (vs.eraseIdx n) (ds.eraseIdx n)
  | _, _, _, .nil => .nil
  | _, _, 0, .cons _ t => t
  | _, _, n + 1, .cons r t => .cons r (Rs.eraseIdx n t)
theorem Rs.ints {w : World} {B : Hp} : ∀ {vs : List V} {ns : List Int}, Rs w B vs (ns.map D.int) → vs = ns.map V.int
  | _, [], .nil => rfl
  | _, n :: ns, .cons a b => by cases a; rw [b.ints]; rfl
theorem Rs.strs {w : World} {B : Hp} : ∀ {vs : List V} {ns : List Str}, Rs w B vs (ns.map D.str) → vs = ns.map V.str
  | _, [], .nil => rfl
  | _, n :: ns, .cons a b => by cases a; rw [b.strs]; rfl
theorem Rs.bls {w : World} {B : Hp} : ∀ {vs : List V} {ns : List Bool}, Rs w B vs (ns.map D.bl) → vs = ns.map V.bl
  | _, [], .nil => rfl
  | _, n :: ns, .cons a b => by cases a; rw [b.bls]; rfl
theorem Rs.ofInts {w : World} {B : Hp} : ∀ (ns : List Int), Rs w B (ns.map V.int) (ns.map D.int)
  | [] => .nil
  | n :: ns => .cons (.int n) (Rs.ofInts ns)
theorem Rs.ofStrs {w : World} {B : Hp} : ∀ (ns : List Str), Rs w B (ns.map V.str) (ns.map D.str)
  | [] => .nil
  | n :: ns => .cons (.str n) (Rs.ofStrs ns)

/-- the object at p in H is the data d, its parts stand in B -/
def Ob (w : World) (B H : Hp) (p : Addr) : D → Prop
  | .lst ds => ∃ xs, H p = some (.lst xs) ∧ Rs w B xs ds
  | .tup ds => ∃ xs, H p = some (.tup xs) ∧ Rs w B xs ds
  | .dI kvs => ∃ (xs : List (Key × V)) (ks : List Int) (ds : List D), H p = some (.dK xs) ∧ xs.map (·.1) = ks.map Sum.inl ∧ ds.length = ks.length ∧ Rs w B (xs.map (·.2)) ds ∧ kvs = ks.zip ds
  | .dN kvs => ∃ (o : Obj) (xs : List (NestedKey × Addr × Value)) (vs : List V) (ks ds : List D), H p = some (DNo w p o xs) ∧ xs.map (·.1) = ks.map kyD ∧ (∀ k ∈ ks, KeyOk k) ∧ ds.length = ks.length ∧ Vals vs (xs.map (·.2.2)) ∧ Rs w B (xs.map fun x => V.ref x.2.1) ks ∧ Rs w B vs ds ∧ kvs = ks.zip ds
  | _ => False
theorem Ob.mono {w : World} {B B' H H' : Hp} {p : Addr} {d : D} (h : Sb B B') (k : ∀ o, H p = some o → H' p = some o) (x : Ob w B H p d) : Ob w B' H' p d := by
  cases d with
  | lst ds => obtain ⟨xs, e, r⟩ := x; exact ⟨xs, k _ e, r.mono h⟩
  | tup ds => obtain ⟨xs, e, r⟩ := x; exact ⟨xs, k _ e, r.mono h⟩
  | dI kvs => obtain ⟨xs, ks, ds, e, a, b, r, c⟩ := x; exact ⟨xs, ks, ds, k _ e, a, b, r.mono h, c⟩
  | dN kvs => obtain ⟨ob, xs, vs, ks, ds, e, a, b, l, b2, rk, r, c⟩ := x; exact ⟨ob, xs, vs, ks, ds, k _ e, a, b, l, b2, rk.mono h, r.mono h, c⟩
  | _ => exact False.elim x
theorem Ob.isSome {w : World} {B H : Hp} {p : Addr} {d : D} (x : Ob w B H p d) : ∃ o, H p = some o := by
  cases d with
  | lst ds => obtain ⟨xs, e, r⟩ := x; exact ⟨_, e⟩
  | tup ds => obtain ⟨xs, e, r⟩ := x; exact ⟨_, e⟩
  | dI kvs => obtain ⟨xs, ks, ds, e, _⟩ := x; exact ⟨_, e⟩
  | dN kvs => obtain ⟨ob, xs, vs, ks, ds, e, _⟩ := x; exact ⟨_, e⟩
  | _ => exact False.elim x
theorem R.of_ob {w : World} {B : Hp} {p : Addr} {d : D} (x : Ob w B B p d) : R w B (.ref p) d := by
  cases d with
  | lst ds => obtain ⟨xs, e, r⟩ := x; exact .lst e r
  | tup ds => obtain ⟨xs, e, r⟩ := x; exact .tup e r
  | dI kvs => obtain ⟨xs, ks, ds, e, a, b, r, rfl⟩ := x; exact .dI e a b r
  | dN kvs => obtain ⟨ob, xs, vs, ks, ds, e, a, b, l, b2, rk, r, rfl⟩ := x; exact .dN e a b l b2 rk r
  | _ => exact False.elim x
/-- the data of an object -/
def D.isOb : D → Bool
  | .lst _ | .tup _ | .dI _ | .dN _ => true
  | _ => false
theorem R.ob {w : World} {B : Hp} {v : V} {d : D} (x : R w B v d) (h : d.isOb = true) : ∃ p, v = .ref p ∧ Ob w B B p d := by
  cases x with
  | lst e r => exact ⟨_, rfl, _, e, r⟩
  | tup e r => exact ⟨_, rfl, _, e, r⟩
  | dI e a b r => exact ⟨_, rfl, _, _, _, e, a, b, r, rfl⟩
  | dN e a b l b2 rk r => exact ⟨_, rfl, _, _, _, _, _, e, a, b, l, b2, rk, r, rfl⟩
  | _ => cases h

/-- what may be read as d: data of B, or an object of H with parts in B -/
def Vw (w : World) (B H : Hp) (v : V) (d : D) : Prop := R w B v d ∨ ∃ p, v = .ref p ∧ Ob w B H p d
theorem Vw.ob {w : World} {B H : Hp} {v : V} {d : D} (hs : Sb B H) (x : Vw w B H v d) (h : d.isOb = true) : ∃ p, v = .ref p ∧ Ob w B H p d := by
  rcases x with x | x
  · obtain ⟨p, e, y⟩ := x.ob h
    exact ⟨p, e, y.mono (Sb.refl B) (hs p)⟩
  · exact x
theorem Vw.flat {w : World} {B H : Hp} {v : V} {d : D} (x : Vw w B H v d) (h : d.isOb = false) : R w B v d := by
  rcases x with x | ⟨p, e, y⟩
  · exact x
  · cases d <;> first | exact False.elim y | (cases h; done)
theorem Vw.int {w : World} {B H : Hp} {v : V} {i : Int} (x : Vw w B H v (.int i)) : v = .int i := by
  have := x.flat rfl
  cases this
  rfl
theorem Vw.str {w : World} {B H : Hp} {v : V} {i : Str} (x : Vw w B H v (.str i)) : v = .str i := by
  have := x.flat rfl
  cases this
  rfl
theorem Vw.bl {w : World} {B H : Hp} {v : V} {i : Bool} (x : Vw w B H v (.bl i)) : v = .bl i := by
  have := x.flat rfl
  cases this
  rfl
theorem Vw.non {w : World} {B H : Hp} {v : V} (x : Vw w B H v .non) : v = .non := by
  have := x.flat rfl
  cases this
  rfl
theorem Vw.lst {w : World} {B H : Hp} {v : V} {ds : List D} (hs : Sb B H) (x : Vw w B H v (.lst ds)) : ∃ p xs, v = .ref p ∧ H p = some (.lst xs) ∧ Rs w B xs ds := by
  obtain ⟨p, e, xs, h1, h2⟩ := x.ob hs rfl
  exact ⟨p, xs, e, h1, h2⟩
theorem Vw.tup {w : World} {B H : Hp} {v : V} {ds : List D} (hs : Sb B H) (x : Vw w B H v (.tup ds)) : ∃ p xs, v = .ref p ∧ H p = some (.tup xs) ∧ Rs w B xs ds := by
  obtain ⟨p, e, xs, h1, h2⟩ := x.ob hs rfl
  exact ⟨p, xs, e, h1, h2⟩

/-! ### what is known of a frame -/
/-- a slot: nothing is known; data; an object of its own; just this value -/
inductive Kd where
  | any | dat (d : D) | ob (f : Bool) (d : D) | raw (v : V)
def Kd.isOb : Kd → Bool
  | .ob _ _ => true
  | _ => false
/-- the entry of a def: its heap, the standing part of it, what may be changed (the objects handed in to be changed), tables of code -/
structure Zn where
  w : World
  H : Hp
  B : Hp
  M : List Addr
  T : List NdefX.NTab
def NT (o : HO) : Prop := ∀ ps, o ≠ .tbl ps
def SlotOk (w : World) (B H : Hp) (ok : Bool → Addr → Prop) : Kd → Option V → Prop
  | .any, _ => True
  | .dat d, o => ∃ v, o = some v ∧ R w B v d
  | .ob f d, o => ∃ p, o = some (.ref p) ∧ Ob w B H p d ∧ ok f p
  | .raw v, o => o = some v
/-- an address of an object of one's own: not of the standing part, new or to be changed -/
def Own (Z : Zn) (B : Hp) (f : Bool) (p : Addr) : Prop := B p = none ∧ if f = true then Z.H p = none else p ∈ Z.M
structure EnvOk (Z : Zn) (Γ : List Kd) (σ : L2.St) (H B : Hp) : Prop where
  keepH : ∀ a o, Z.H a = some o → a ∉ Z.M → NT o → H a = some o
  there : ∀ a, Z.H a ≠ none → H a ≠ none
  keepB : Sb Z.B B
  sub : Sb B H
  nt : ∀ a o, B a = some o → NT o
  apart : ∀ a, Z.H a ≠ none → Z.B a = none → B a = none
  tabs : NdefX.TabsN Z.T H
  len : Γ.length = σ.length
  slots : ∀ (i : Nat) (k : Kd), Γ[i]? = some k → SlotOk Z.w B H (Own Z B) k ((σ[i]?).getD none)
  sep : ∀ (i j : Nat) (f g : Bool) (d e : D) (p : Addr), Γ[i]? = some (.ob f d) → Γ[j]? = some (.ob g e) → σ[i]? = some (some (.ref p)) → σ[j]? = some (some (.ref p)) → i = j
  zM : ∀ p ∈ Z.M, Z.H p ≠ none
  zB : Sb Z.B Z.H

end Gm
namespace Gm
open PySem PySem.Spec PyProof.Rows L2

theorem Ob.nt {w : World} {B H : Hp} {p : Addr} {d : D} {o : HO} (x : Ob w B H p d) (e : H p = some o) : NT o := by
  intro ps z
  subst z
  cases d with
  | lst ds => obtain ⟨xs, e1, r⟩ := x; rw [e] at e1; cases e1
  | tup ds => obtain ⟨xs, e1, r⟩ := x; rw [e] at e1; cases e1
  | dI kvs => obtain ⟨xs, ks, ds, e1, _⟩ := x; rw [e] at e1; cases e1
  | dN kvs => obtain ⟨ob, xs, vs, ks, ds, e1, _⟩ := x; rw [e] at e1; cases e1
  | _ => exact False.elim x

/-! ### results -/
/-- a result: data; the object of a slot; a new object; just this value -/
inductive Rz where
  | d (d : D) | o (i : Nat) | n (d : D) | x (v : V)
def Rz.st : Rz → Bool
  | .n _ => false
  | _ => true
abbrev Rz.fz : Rz → Rz
  | .n a => .d a
  | r => r
def RzOk (Z : Zn) (σ : L2.St) (Γ : List Kd) (B H : Hp) (v : V) : Rz → Prop
  | .d d => R Z.w B v d
  | .o i => σ[i]? = some (some v)
  | .n d => ∃ p, v = .ref p ∧ Ob Z.w B H p d ∧ B p = none ∧ Z.H p = none ∧ ∀ (i : Nat) (f : Bool) (d' : D), Γ[i]? = some (.ob f d') → σ[i]? ≠ some (some (.ref p))
  | .x u => v = u
def vw (Γ : List Kd) : Rz → Option D
  | .d d => some d
  | .n d => some d
  | .o i => match Γ[i]? with
    | some (.ob _ d) => some d
    | _ => none
  | .x _ => none
theorem RzOk.mono {Z : Zn} {σ : L2.St} {Γ Γ' : List Kd} {B B' H H' : Hp} {v : V} {r : Rz} (hs : r.st = true) (h : Sb B B') (x : RzOk Z σ Γ B H v r) : RzOk Z σ Γ' B' H' v r := by
  cases r with
  | d d => exact R.mono h x
  | o i => exact x
  | n d => cases hs
  | x u => exact x
theorem EnvOk.slot {Z : Zn} {Γ : List Kd} {σ : L2.St} {H B : Hp} (I : EnvOk Z Γ σ H B) {i : Nat} {k : Kd} (h : Γ[i]? = some k) (hk : k ≠ .any) : ∃ v, σ[i]? = some (some v) ∧ SlotOk Z.w B H (Own Z B) k (some v) := by
  have hl : i < σ.length := by rw [← I.len]; exact (List.getElem?_eq_some_iff.mp h).1
  have q := I.slots i k h
  have e : σ[i]? = some σ[i] := by simp [hl]
  rw [e] at q
  cases ev : σ[i] with
  | none =>
    rw [ev] at q
    cases k with
    | any => exact absurd rfl hk
    | dat d => obtain ⟨v, e, _⟩ := q; cases e
    | ob f d => obtain ⟨v, e, _⟩ := q; cases e
    | raw v => cases q
  | some v =>
    rw [ev] at q
    exact ⟨v, by rw [e, ev], q⟩
theorem vw_ok {Z : Zn} {Γ : List Kd} {σ : L2.St} {H B : Hp} {v : V} {r : Rz} {d : D} (I : EnvOk Z Γ σ H B) (x : RzOk Z σ Γ B H v r) (e : vw Γ r = some d) : Vw Z.w B H v d := by
  cases r with
  | d d' => cases e; exact .inl x
  | n d' => cases e; obtain ⟨p, e, y, _⟩ := x; exact .inr ⟨p, e, y⟩
  | x u => cases e
  | o i =>
    unfold vw at e
    cases g : Γ[i]? with
    | none => simp only [g] at e; cases e
    | some k =>
      cases k with
      | ob f d' =>
        simp only [g] at e
        cases e
        obtain ⟨v', h1, p, h2, h3, _⟩ := I.slot g (fun z => nomatch z)
        have x' : σ[i]? = some (some v) := x
        rw [h1] at x'
        cases x'
        cases h2
        exact .inr ⟨p, rfl, h3⟩
      | _ => simp only [g] at e; cases e

/-! ### steps of the frame -/
/-- the heap grows, the standing part grows by new objects -/
structure Grow (T : List NdefX.NTab) (H B H' B' : Hp) : Prop where
  keep : ∀ a o, H a = some o → NT o → H' a = some o
  there : ∀ a, H a ≠ none → H' a ≠ none
  base : Sb B B'
  sub : Sb B' H'
  nt : ∀ a o, B' a = some o → NT o
  apart : ∀ a, H a ≠ none → B a = none → B' a = none
  tabs : NdefX.TabsN T H'
theorem EnvOk.grow {Z : Zn} {Γ : List Kd} {σ : L2.St} {H B H' B' : Hp} (I : EnvOk Z Γ σ H B) (g : Grow Z.T H B H' B') : EnvOk Z Γ σ H' B' where
  keepH := fun a o e m n => g.keep a o (I.keepH a o e m n) n
  there := fun a e => g.there a (I.there a e)
  keepB := I.keepB.trans g.base
  sub := g.sub
  nt := g.nt
  apart := fun a e b => g.apart a (I.there a e) (I.apart a e b)
  tabs := g.tabs
  len := I.len
  slots := fun i k h => by
    have q := I.slots i k h
    cases k with
    | any => trivial
    | dat d => obtain ⟨v, e, r⟩ := q; exact ⟨v, e, r.mono g.base⟩
    | ob f d =>
      obtain ⟨p, e, r, b, c⟩ := q
      refine ⟨p, e, r.mono g.base (fun o e => g.keep p o e (r.nt e)), g.apart p ?_ b, c⟩
      obtain ⟨o, e⟩ := r.isSome
      rw [e]
      exact fun z => nomatch z
    | raw v => exact q
  sep := I.sep
  zM := I.zM
  zB := I.zB
theorem Grow.refl {T : List NdefX.NTab} {H B : Hp} (h1 : Sb B H) (h2 : ∀ a o, B a = some o → NT o) (h3 : NdefX.TabsN T H) : Grow T H B H B :=
  ⟨fun _ _ e _ => e, fun _ e => e, Sb.refl B, h1, h2, fun _ _ e => e, h3⟩
theorem tabs_upd {T : List NdefX.NTab} {H : Hp} {p : Addr} {o : HO} (h : NdefX.TabsN T H) (hp : H p = none) : NdefX.TabsN T (upd H p o) :=
  h.ext fun b u e => by rw [upd_ne (ne_of_none e hp)]; exact e
/-- a new object, of the standing part -/
theorem grow_new {T : List NdefX.NTab} {H B : Hp} {p : Addr} {o : HO} (h1 : Sb B H) (h2 : ∀ a o, B a = some o → NT o) (h3 : NdefX.TabsN T H) (hp : H p = none) (ho : NT o) : Grow T H B (upd H p o) (upd B p o) where
  keep := fun a u e _ => by rw [upd_ne (ne_of_none e hp)]; exact e
  there := fun a e z => by
    unfold upd at z
    split at z
    · cases z
    · exact e z
  base := fun a u e => by rw [upd_ne (ne_of_none (h1 a u e) hp)]; exact e
  sub := fun a u e => by
    unfold upd at e ⊢
    split at e
    · rename_i q
      rw [if_pos q]
      exact e
    · rename_i q
      rw [if_neg q]
      exact h1 a u e
  nt := fun a u e => by
    unfold upd at e
    split at e
    · cases e; exact ho
    · exact h2 a u e
  apart := fun a e b => by
    unfold upd
    split
    · rename_i q
      subst q
      exact absurd hp e
    · exact b
  tabs := tabs_upd h3 hp
/-- .. not of the standing part -/
theorem grow_free {T : List NdefX.NTab} {H B : Hp} {p : Addr} {o : HO} (h1 : Sb B H) (h2 : ∀ a o, B a = some o → NT o) (h3 : NdefX.TabsN T H) (hp : H p = none) : Grow T H B (upd H p o) B where
  keep := fun a u e _ => by rw [upd_ne (ne_of_none e hp)]; exact e
  there := fun a e z => by
    unfold upd at z
    split at z
    · cases z
    · exact e z
  base := Sb.refl B
  sub := fun a u e => by rw [upd_ne (ne_of_none (h1 a u e) hp)]; exact h1 a u e
  nt := h2
  apart := fun a e b => b
  tabs := tabs_upd h3 hp
theorem EnvOk.none_of {Z : Zn} {Γ : List Kd} {σ : L2.St} {H B : Hp} (I : EnvOk Z Γ σ H B) {p : Addr} (h : H p = none) : B p = none ∧ Z.H p = none := by
  refine ⟨?_, ?_⟩
  · cases e : B p with
    | none => rfl
    | some o => rw [I.sub p o e] at h; cases h
  · cases e : Z.H p with
    | none => rfl
    | some o => exact absurd h (I.there p (by rw [e]; exact fun z => nomatch z))
theorem EnvOk.notSlot {Z : Zn} {Γ : List Kd} {σ : L2.St} {H B : Hp} (I : EnvOk Z Γ σ H B) {p : Addr} (h : H p = none) (i : Nat) (f : Bool) (d : D) (e : Γ[i]? = some (.ob f d)) : σ[i]? ≠ some (some (.ref p)) := fun z => by
  obtain ⟨v, h1, q, h2, h3, _⟩ := I.slot e (fun z => nomatch z)
  rw [h1] at z
  cases z
  cases h2
  obtain ⟨o, ho⟩ := h3.isSome
  rw [h] at ho
  cases ho
theorem EnvOk.new {Z : Zn} {Γ : List Kd} {σ : L2.St} {H B : Hp} (I : EnvOk Z Γ σ H B) {p : Addr} {o : HO} (hp : H p = none) (ho : NT o) : EnvOk Z Γ σ (upd H p o) (upd B p o) := I.grow (grow_new I.sub I.nt I.tabs hp ho)
theorem EnvOk.free {Z : Zn} {Γ : List Kd} {σ : L2.St} {H B : Hp} (I : EnvOk Z Γ σ H B) {p : Addr} {o : HO} (hp : H p = none) : EnvOk Z Γ σ (upd H p o) B := I.grow (grow_free I.sub I.nt I.tabs hp)
/-- a new object, to be owned -/
theorem RzOk.new {Z : Zn} {Γ : List Kd} {σ : L2.St} {H B : Hp} (I : EnvOk Z Γ σ H B) {p : Addr} {o : HO} {d : D} (hp : H p = none) (x : Ob Z.w B (upd H p o) p d) : RzOk Z σ Γ B (upd H p o) (.ref p) (.n d) :=
  ⟨p, rfl, x, (I.none_of hp).1, (I.none_of hp).2, fun i f d' e => I.notSlot hp i f d' e⟩
/-- a slot is stored -/
theorem EnvOk.set {Z : Zn} {Γ : List Kd} {σ : L2.St} {H B : Hp} (I : EnvOk Z Γ σ H B) {i : Nat} {k : Kd} {v : V} (hi : i < Γ.length) (h : SlotOk Z.w B H (Own Z B) k (some v)) (hs : ∀ f d p, k = .ob f d → v = .ref p → ∀ (j : Nat) (g : Bool) (d' : D), j ≠ i → Γ[j]? = some (.ob g d') → σ[j]? ≠ some (some (.ref p))) :
    EnvOk Z (Γ.set i k) (σ.set i (some v)) H B where
  keepH := I.keepH
  there := I.there
  keepB := I.keepB
  sub := I.sub
  nt := I.nt
  apart := I.apart
  tabs := I.tabs
  len := by rw [List.length_set, List.length_set]; exact I.len
  slots := fun j k' e => by
    have hi' : i < σ.length := by rw [← I.len]; exact hi
    by_cases hj : i = j
    · subst hj
      rw [List.getElem?_set_self hi] at e
      cases e
      rw [List.getElem?_set_self hi']
      exact h
    · rw [List.getElem?_set_ne hj] at e ⊢
      exact I.slots j k' e
  sep := fun a b f g d e p h1 h2 h3 h4 => by
    have hi' : i < σ.length := by rw [← I.len]; exact hi
    by_cases ha : i = a
    · subst ha
      by_cases hb : i = b
      · exact hb
      · rw [List.getElem?_set_self hi] at h1
        rw [List.getElem?_set_self hi'] at h3
        rw [List.getElem?_set_ne hb] at h2 h4
        cases h1
        cases h3
        exact absurd h4 (hs f d p rfl rfl b g e (Ne.symm hb) h2)
    · by_cases hb : i = b
      · subst hb
        rw [List.getElem?_set_self hi] at h2
        rw [List.getElem?_set_self hi'] at h4
        rw [List.getElem?_set_ne ha] at h1 h3
        cases h2
        cases h4
        exact absurd h3 (hs g e p rfl rfl a f d (Ne.symm ha) h1)
      · rw [List.getElem?_set_ne ha] at h1 h3
        rw [List.getElem?_set_ne hb] at h2 h4
        exact I.sep a b f g d e p h1 h2 h3 h4
  zM := I.zM
  zB := I.zB

/-! ### judgements -/
def Ev (Z : Zn) (te : TE) (Γ : List Kd) (k : Rz → List Kd → Prop) : Prop :=
  ∀ σ H B, EnvOk Z Γ σ H B → ∀ Q : VK, (∀ r Γ' v H' B', EnvOk Z Γ' σ H' B' → Sb B B' → RzOk Z σ Γ' B' H' v r → k r Γ' → Q v H') → te σ H Q
def EvT (Z : Zn) (tt : TT) (Γ : List Kd) (k : Bool → List Kd → Prop) : Prop :=
  ∀ σ H B, EnvOk Z Γ σ H B → ∀ Q : Bool → Hp → Prop, (∀ b Γ' H' B', EnvOk Z Γ' σ H' B' → Sb B B' → k b Γ' → Q b H') → tt σ H Q
/-- several results, all standing -/
inductive RzsOk (Z : Zn) (σ : L2.St) (B : Hp) : List V → List Rz → Prop
  | nil : RzsOk Z σ B [] []
  | cons {v : V} {r : Rz} {vs : List V} {rs : List Rz} : r.st = true → (∀ Γ H, RzOk Z σ Γ B H v r) → RzsOk Z σ B vs rs → RzsOk Z σ B (v :: vs) (r :: rs)
def EvA (Z : Zn) (ta : TA) (Γ : List Kd) (k : List Rz → List Kd → Prop) : Prop :=
  ∀ σ H B, EnvOk Z Γ σ H B → ∀ Q : List V → Hp → Prop, (∀ rs Γ' vs H' B', EnvOk Z Γ' σ H' B' → Sb B B' → RzsOk Z σ B' vs rs → k rs Γ' → Q vs H') → ta σ H Q
theorem RzsOk.mono {Z : Zn} {σ : L2.St} {B B' : Hp} (h : Sb B B') : ∀ {vs : List V} {rs : List Rz}, RzsOk Z σ B vs rs → RzsOk Z σ B' vs rs
  | _, _, .nil => .nil
  | _, _, .cons s x t => .cons s (fun Γ H => RzOk.mono (Γ := Γ) (H := H) s h (x Γ H)) (RzsOk.mono h t)
theorem RzsOk.datas {Z : Zn} {σ : L2.St} {B : Hp} : ∀ {vs : List V} {ds : List D}, RzsOk Z σ B vs (ds.map Rz.d) → Rs Z.w B vs ds
  | _, [], .nil => .nil
  | _, d :: ds, .cons s x t => .cons (x [] B) (RzsOk.datas t)

section
variable {Z : Zn} {Γ : List Kd} {k : Rz → List Kd → Prop} {ta tb te : TE}
theorem Ev.imp {k' : Rz → List Kd → Prop} (h : Ev Z te Γ k) (i : ∀ r Γ', k r Γ' → k' r Γ') : Ev Z te Γ k' := fun σ H B I Q q => h σ H B I Q fun r Γ' v H' B' I' s x kk => q r Γ' v H' B' I' s x (i _ _ kk)
/-- a new object is of the standing part from now on -/
theorem ev_fz (h : Ev Z te Γ fun r Γ' => k r.fz Γ') : Ev Z te Γ k := fun σ H B I Q q => h σ H B I Q fun r Γ' v H' B' I' s x kk => by
  cases r with
  | n d =>
    obtain ⟨p, rfl, y, b, c, e⟩ := x
    obtain ⟨o, ho⟩ := y.isSome
    have hs : Sb B' (upd B' p o) := fun a u z => by rw [upd_ne (ne_of_none z b)]; exact z
    have I2 : EnvOk Z Γ' σ H' (upd B' p o) := by
      refine ⟨I'.keepH, I'.there, I'.keepB.trans hs, fun a u z => ?_, fun a u z => ?_, fun a z1 z2 => ?_, I'.tabs, I'.len, fun i k' z => ?_, I'.sep, I'.zM, I'.zB⟩
      · unfold upd at z
        split at z
        · rename_i q; subst q; cases z; exact ho
        · exact I'.sub a u z
      · unfold upd at z
        split at z
        · rename_i q; subst q; cases z; exact y.nt ho
        · exact I'.nt a u z
      · unfold upd
        split
        · rename_i q; subst q; exact absurd c z1
        · exact I'.apart a z1 z2
      · have w := I'.slots i k' z
        cases k' with
        | any => trivial
        | dat d => obtain ⟨v, e, r⟩ := w; exact ⟨v, e, r.mono hs⟩
        | ob f d' =>
          obtain ⟨p', e', r, w1, w2⟩ := w
          refine ⟨p', e', r.mono hs (fun _ z => z), ?_, w2⟩
          unfold upd
          split
          · rename_i q
            subst q
            obtain ⟨v, h1, _⟩ := I'.slot z (fun z => nomatch z)
            rw [h1] at e'
            cases e'
            exact absurd h1 (e i f d' z)
          · exact w1
        | raw v => exact w
    exact q (.d d) Γ' _ H' _ I2 (s.trans hs) (R.of_ob (y.mono hs (fun o' z => by rw [ho] at z; cases z; exact upd_same))) kk
  | _ => exact q _ Γ' v H' B' I' s x kk
def rzOf (i : Nat) : Kd → Option Rz
  | .any => none
  | .dat d => some (.d d)
  | .ob _ _ => some (.o i)
  | .raw v => some (.x v)
theorem ev_var {i : Nat} {kd : Kd} {r : Rz} (h : Γ[i]? = some kd) (hr : rzOf i kd = some r) (hk : k r Γ) : Ev Z (tVar i) Γ k := fun σ H B I Q q => by
  have hn : kd ≠ .any := fun z => by subst z; cases hr
  obtain ⟨v, h1, h2⟩ := I.slot h hn
  refine ⟨v, h1, q r Γ v H B I (Sb.refl B) ?_ hk⟩
  cases kd with
  | any => exact absurd rfl hn
  | dat d => cases hr; obtain ⟨v', e, x⟩ := h2; cases e; exact x
  | ob f d => cases hr; exact h1
  | raw u => cases hr; exact Option.some.inj h2
theorem ev_int {i : Int} (hk : k (.d (.int i)) Γ) : Ev Z (tC (.int i)) Γ k := fun σ H B I Q q => q (.d (.int i)) Γ _ H B I (Sb.refl B) (R.int i) hk
theorem ev_str {i : Str} (hk : k (.d (.str i)) Γ) : Ev Z (tC (.str i)) Γ k := fun σ H B I Q q => q (.d (.str i)) Γ _ H B I (Sb.refl B) (R.str i) hk
theorem ev_bl {i : Bool} (hk : k (.d (.bl i)) Γ) : Ev Z (tC (.bl i)) Γ k := fun σ H B I Q q => q (.d (.bl i)) Γ _ H B I (Sb.refl B) (R.bl i) hk
theorem ev_non (hk : k (.d .non) Γ) : Ev Z (tC .non) Γ k := fun σ H B I Q q => q (.d .non) Γ _ H B I (Sb.refl B) R.non hk
theorem ev_cx {v : V} (hk : k (.x v) Γ) : Ev Z (tC v) Γ k := fun σ H B I Q q => q (.x v) Γ _ H B I (Sb.refl B) rfl hk

/-- an operation on two results -/
def Op2 (Z : Zn) (r : R2) (r1 r2 : Rz) (Γ : List Kd) (k : Rz → List Kd → Prop) : Prop :=
  ∀ σ H B v1 v2, EnvOk Z Γ σ H B → RzOk Z σ Γ B H v1 r1 → RzOk Z σ Γ B H v2 r2 → ∀ Q : VK, (∀ r Γ' v H' B', EnvOk Z Γ' σ H' B' → Sb B B' → RzOk Z σ Γ' B' H' v r → k r Γ' → Q v H') → r v1 v2 H Q
theorem ev_op {r : R2} (h : Ev Z ta Γ fun r1 Γ1 => r1.st = true ∧ Ev Z tb Γ1 fun r2 Γ2 => Op2 Z r r1 r2 Γ2 k) : Ev Z (tOp r ta tb) Γ k := fun σ H B I Q q =>
  h σ H B I _ fun r1 Γ1 v1 H1 B1 I1 s1 x1 k1 => k1.2 σ H1 B1 I1 _ fun r2 Γ2 v2 H2 B2 I2 s2 x2 k2 => k2 σ H2 B2 v1 v2 I2 (x1.mono k1.1 s2) x2 Q fun r Γ' v H' B' I' s x kk => q r Γ' v H' B' I' ((s1.trans s2).trans s) x kk
theorem ea_nil {k : List Rz → List Kd → Prop} (hk : k [] Γ) : EvA Z tNil Γ k := fun σ H B I Q q => q [] Γ [] H B I (Sb.refl B) .nil hk
theorem ea_cons {k : List Rz → List Kd → Prop} {tr : TA} (h : Ev Z te Γ fun r Γ1 => r.st = true ∧ EvA Z tr Γ1 fun rs Γ2 => k (r :: rs) Γ2) : EvA Z (tCons te tr) Γ k := fun σ H B I Q q =>
  h σ H B I _ fun r Γ1 v H1 B1 I1 s1 x1 k1 => k1.2 σ H1 B1 I1 _ fun rs Γ2 vs H2 B2 I2 s2 x2 k2 => q (r :: rs) Γ2 (v :: vs) H2 B2 I2 (s1.trans s2) (.cons k1.1 (fun Γ H => x1.mono k1.1 s2) x2) k2
theorem ev_tup {ta : TA} (h : EvA Z ta Γ fun rs Γ1 => ∃ ds, rs = ds.map Rz.d ∧ ds.length ≤ 100000 ∧ k (.d (.tup ds)) Γ1) : Ev Z (tTup ta) Γ k := fun σ H B I Q q =>
  h σ H B I _ fun rs Γ1 vs H1 B1 I1 s1 x1 ⟨ds, e, hl, kk⟩ => by
    subst e
    have x := x1.datas
    refine ⟨by rw [x.length]; exact Nat.le_trans hl (by decide), fun p hp => ?_⟩
    have hs : Sb B1 (upd B1 p (.tup vs)) := fun a u z => by rw [upd_ne (ne_of_none (I1.sub a u z) hp)]; exact z
    exact q (.d (.tup ds)) Γ1 _ _ _ (I1.new hp (fun _ z => nomatch z)) (s1.trans hs) (R.tup upd_same (x.mono hs)) kk
theorem ev_lst {ta : TA} (h : EvA Z ta Γ fun rs Γ1 => ∃ ds, rs = ds.map Rz.d ∧ ds.length ≤ 100000 ∧ k (.n (.lst ds)) Γ1) : Ev Z (tLst ta) Γ k := fun σ H B I Q q =>
  h σ H B I _ fun rs Γ1 vs H1 B1 I1 s1 x1 ⟨ds, e, hl, kk⟩ => by
    subst e
    have x := x1.datas
    refine ⟨by rw [x.length]; exact Nat.le_trans hl (by decide), fun p hp => ?_⟩
    exact q (.n (.lst ds)) Γ1 _ _ _ (I1.free hp) s1 (RzOk.new I1 hp ⟨vs, upd_same, x⟩) kk
end
end Gm
namespace Gm
open PySem PySem.Spec PyProof.Rows L2

/-! ### a dict of ours is no code object -/
def oneHeap (c : Addr) (o : Obj) : Heap := Heap.push { objs := Array.replicate c default } o
theorem oneHeap_get (c : Addr) (vs : Array Value) : (oneHeap c { cls := .none, data := .fields vs }).get? c = some { cls := .none, data := .fields vs } := by
  have h := Heap.get?_push_size (h := { objs := Array.replicate c default }) (o := { cls := .none, data := .fields vs }) rfl
  have e : ({ objs := Array.replicate c default } : Heap).objs.size = c := by simp
  rw [e] at h
  exact h
theorem dno_ne_code {w : World} {c : Addr} {o : Obj} {xs : List (NestedKey × Addr × Value)} {q : Str} : DNo w c o xs ≠ LamX.CodeO c q := by
  intro e
  unfold DNo LamX.CodeO at e
  injection e with e
  have h1 : ∃ (oc : Obj) (vs : Array Value) (t : Tok), (oneHeap c { cls := .none, data := .fields #[.none, .str q 0] }).get? c = some oc ∧ oc.data = .fields vs ∧ vs[1]? = some (.str q t) :=
    ⟨_, _, 0, oneHeap_get c _, rfl, rfl⟩
  rw [← congrFun e (oneHeap c { cls := .none, data := .fields #[.none, .str q 0] })] at h1
  obtain ⟨⟨h2, _, es, ep, h3, _⟩, _⟩ := h1
  rw [oneHeap_get] at h2
  cases h2
  cases h3
theorem Ob.ne_code {w : World} {B H : Hp} {p : Addr} {d : D} {q : Str} (x : Ob w B H p d) : H p ≠ some (LamX.CodeO p q) := by
  intro e
  cases d with
  | lst ds => obtain ⟨xs, e1, r⟩ := x; rw [e] at e1; unfold LamX.CodeO at e1; cases e1
  | tup ds => obtain ⟨xs, e1, r⟩ := x; rw [e] at e1; unfold LamX.CodeO at e1; cases e1
  | dI kvs => obtain ⟨xs, ks, ds, e1, _⟩ := x; rw [e] at e1; unfold LamX.CodeO at e1; cases e1
  | dN kvs => obtain ⟨ob, xs, vs, ks, ds, e1, _⟩ := x; rw [e] at e1; exact dno_ne_code (Option.some.inj e1).symm
  | _ => exact False.elim x
theorem tabs_write {T : List NdefX.NTab} {w : World} {B H : Hp} {p : Addr} {d : D} {o : HO} (h : NdefX.TabsN T H) (x : Ob w B H p d) : NdefX.TabsN T (upd H p o) := fun t ht => by
  obtain ⟨ps, h1, h2, h3⟩ := h t ht
  refine ⟨ps, ?_, h2, fun pos cv hc => ?_⟩
  · refine (upd_ne fun z => ?_).trans h1
    obtain ⟨u, hu⟩ := x.isSome
    rw [z, hu] at h1
    exact x.nt hu ps (Option.some.inj h1)
  · obtain ⟨c, e1, e2⟩ := h3 pos cv hc
    refine ⟨c, e1, (upd_ne fun z => ?_).trans e2⟩
    subst z
    exact x.ne_code e2
/-- an object of one's own is changed -/
theorem EnvOk.write {Z : Zn} {Γ : List Kd} {σ : L2.St} {H B : Hp} {i : Nat} {f : Bool} {d d' : D} {p : Addr} {o : HO} (I : EnvOk Z Γ σ H B) (hg : Γ[i]? = some (.ob f d)) (hσ : σ[i]? = some (some (.ref p))) (ho : Ob Z.w B (upd H p o) p d') :
    EnvOk Z (Γ.set i (.ob f d')) σ (upd H p o) B := by
  obtain ⟨v, h1, p', h2, h3, h4, h5⟩ := I.slot hg (fun z => nomatch z)
  rw [hσ] at h1
  cases h1
  cases h2
  have hi : i < Γ.length := (List.getElem?_eq_some_iff.mp hg).1
  refine ⟨fun a u e m n => ?_, fun a e z => ?_, I.keepB, fun a u e => ?_, I.nt, I.apart, tabs_write I.tabs h3, by rw [List.length_set]; exact I.len, fun j k e => ?_, fun a b f' g' e f q e1 e2 e3 e4 => ?_, I.zM, I.zB⟩
  · refine (upd_ne fun z => ?_).trans (I.keepH a u e m n)
    subst z
    cases f with
    | true => rw [if_pos rfl] at h5; rw [h5] at e; cases e
    | false => rw [if_neg (by decide)] at h5; exact m h5
  · unfold upd at z
    split at z
    · cases z
    · exact I.there a e z
  · refine (upd_ne fun z => ?_).trans (I.sub a u e)
    subst z
    rw [h4] at e
    cases e
  · by_cases hj : i = j
    · subst hj
      rw [List.getElem?_set_self hi] at e
      cases e
      rw [hσ]
      exact ⟨p, rfl, ho, h4, h5⟩
    · rw [List.getElem?_set_ne hj] at e
      have w := I.slots j k e
      cases k with
      | any => trivial
      | dat d => exact w
      | raw v => exact w
      | ob f2 d2 =>
        obtain ⟨p2, w1, w2, w3⟩ := w
        refine ⟨p2, w1, w2.mono (Sb.refl B) fun u hu => (upd_ne fun z => ?_).trans hu, w3⟩
        subst z
        obtain ⟨v, g1, _⟩ := I.slot e (fun z => nomatch z)
        rw [g1] at w1
        cases w1
        exact hj (I.sep i j _ _ d d2 _ hg e hσ g1)
  · have back2 : ∀ (a : Nat) (g : Bool) (e : D) (x : Bool), (Γ.set i (.ob x d'))[a]? = some (.ob g e) → ∃ g' e', Γ[a]? = some (.ob g' e') := fun a g e x h => by
      by_cases hj : i = a
      · subst hj; exact ⟨_, d, hg⟩
      · rw [List.getElem?_set_ne hj] at h; exact ⟨g, e, h⟩
    obtain ⟨_, _, r1⟩ := back2 a _ _ _ e1
    obtain ⟨_, _, r2⟩ := back2 b _ _ _ e2
    exact I.sep a b _ _ _ _ q r1 r2 e3 e4
/-- an object of one's own stands from now on -/
theorem EnvOk.freeze {Z : Zn} {Γ : List Kd} {σ : L2.St} {H B : Hp} {i : Nat} {d : D} (I : EnvOk Z Γ σ H B) (hg : Γ[i]? = some (.ob true d)) : ∃ B', Sb B B' ∧ EnvOk Z (Γ.set i (.dat d)) σ H B' := by
  obtain ⟨v, h1, p, h2, h3, h4, h5⟩ := I.slot hg (fun z => nomatch z)
  cases h2
  rw [if_pos rfl] at h5
  obtain ⟨o, ho⟩ := h3.isSome
  have hi : i < Γ.length := (List.getElem?_eq_some_iff.mp hg).1
  have hs : Sb B (upd B p o) := fun a u z => by rw [upd_ne (ne_of_none z h4)]; exact z
  refine ⟨upd B p o, hs, I.keepH, I.there, I.keepB.trans hs, fun a u z => ?_, fun a u z => ?_, fun a z1 z2 => ?_, I.tabs, by rw [List.length_set]; exact I.len, fun j k e => ?_, fun a b f g e e' q e1 e2 e3 e4 => ?_, I.zM, I.zB⟩
  · unfold upd at z
    split at z
    · rename_i q; subst q; cases z; exact ho
    · exact I.sub a u z
  · unfold upd at z
    split at z
    · rename_i q; subst q; cases z; exact h3.nt ho
    · exact I.nt a u z
  · unfold upd
    split
    · rename_i q; subst q; exact absurd h5 z1
    · exact I.apart a z1 z2
  · by_cases hj : i = j
    · subst hj
      rw [List.getElem?_set_self hi] at e
      cases e
      rw [h1]
      exact ⟨.ref p, rfl, R.of_ob (h3.mono hs (fun o' z => by rw [ho] at z; cases z; exact upd_same))⟩
    · rw [List.getElem?_set_ne hj] at e
      have w := I.slots j k e
      cases k with
      | any => trivial
      | dat d => obtain ⟨v, e, r⟩ := w; exact ⟨v, e, r.mono hs⟩
      | raw v => exact w
      | ob f2 d2 =>
        obtain ⟨p2, w1, w2, w3, w4⟩ := w
        refine ⟨p2, w1, w2.mono hs fun u hu => hu, ?_, w4⟩
        refine (upd_ne fun z => ?_).trans w3
        subst z
        obtain ⟨v, g1, _⟩ := I.slot e (fun z => nomatch z)
        rw [g1] at w1
        cases w1
        exact hj (I.sep i j _ _ d d2 _ hg e h1 g1)
  · have back : ∀ (a : Nat) (g : Bool) (e : D), (Γ.set i (.dat d))[a]? = some (.ob g e) → Γ[a]? = some (.ob g e) := fun a g e h => by
      by_cases hj : i = a
      · subst hj; rw [List.getElem?_set_self hi] at h; cases h
      · rw [List.getElem?_set_ne hj] at h; exact h
    exact I.sep a b _ _ _ _ q (back _ _ _ e1) (back _ _ _ e2) e3 e4

end Gm
namespace Gm
open PySem PySem.Spec PyProof.Rows L2
section
variable {Z : Zn} {Γ : List Kd} {k : Rz → List Kd → Prop} {ta tb te : TE} {tt tu : TT} {kb : Bool → List Kd → Prop} {ka : List Rz → List Kd → Prop}
theorem fz_st (r : Rz) : r.fz.st = true := by cases r <;> rfl
/-- .. the parts frozen -/
theorem ev_op' {r : R2} (h : Ev Z ta Γ fun r1 Γ1 => Ev Z tb Γ1 fun r2 Γ2 => Op2 Z r r1.fz r2.fz Γ2 k) : Ev Z (tOp r ta tb) Γ k :=
  ev_op (ev_fz (h.imp fun r1 Γ1 h1 => ⟨fz_st r1, ev_fz h1⟩))
theorem ea_cons' {tr : TA} (h : Ev Z te Γ fun r Γ1 => EvA Z tr Γ1 fun rs Γ2 => ka (r.fz :: rs) Γ2) : EvA Z (tCons te tr) Γ ka :=
  ea_cons (ev_fz (h.imp fun r Γ1 h1 => ⟨fz_st r, h1⟩))
/-- no change of the heap: the answer is data of the parts -/
theorem op2_val {r : R2} {r1 r2 : Rz} {d1 d2 d : D} (e1 : vw Γ r1 = some d1) (e2 : vw Γ r2 = some d2)
    (h : ∀ B H v1 v2, Sb B H → Vw Z.w B H v1 d1 → Vw Z.w B H v2 d2 → ∀ Q : VK, (∀ v, R Z.w B v d → Q v H) → r v1 v2 H Q) (hk : k (.d d) Γ) : Op2 Z r r1 r2 Γ k :=
  fun σ H B v1 v2 I x1 x2 Q q => h B H v1 v2 I.sub (vw_ok I x1 e1) (vw_ok I x2 e2) Q fun v x => q (.d d) Γ v H B I (Sb.refl B) x hk
theorem op_I0 {g : Int → Int → V} {r1 r2 : Rz} {i j : Int} {d : D} (e1 : vw Γ r1 = some (.int i)) (e2 : vw Γ r2 = some (.int j)) (hd : ∀ B, R Z.w B (g i j) d) (hk : k (.d d) Γ) : Op2 Z (rI0 g) r1 r2 Γ k :=
  op2_val e1 e2 (fun B H v1 v2 _ x1 x2 Q q => ⟨i, j, x1.int, x2.int, q _ (hd B)⟩) hk
theorem op_I {C : Int → Int → Prop} {g : Int → Int → V} {r1 r2 : Rz} {i j : Int} {d : D} (e1 : vw Γ r1 = some (.int i)) (e2 : vw Γ r2 = some (.int j)) (hc : C i j) (hd : ∀ B, R Z.w B (g i j) d) (hk : k (.d d) Γ) : Op2 Z (rI C g) r1 r2 Γ k :=
  op2_val e1 e2 (fun B H v1 v2 _ x1 x2 Q q => ⟨i, j, x1.int, x2.int, hc, q _ (hd B)⟩) hk
theorem Op2.inl {r r' : R2} {r1 r2 : Rz} (h : Op2 Z r r1 r2 Γ k) : Op2 Z (fun x y H Q => r x y H Q ∨ r' x y H Q) r1 r2 Γ k := fun σ H B v1 v2 I x1 x2 Q q => .inl (h σ H B v1 v2 I x1 x2 Q q)
theorem Op2.inr {r r' : R2} {r1 r2 : Rz} (h : Op2 Z r' r1 r2 Γ k) : Op2 Z (fun x y H Q => r x y H Q ∨ r' x y H Q) r1 r2 Γ k := fun σ H B v1 v2 I x1 x2 Q q => .inr (h σ H B v1 v2 I x1 x2 Q q)

/-! ### tests -/
theorem EvT.imp {kb' : Bool → List Kd → Prop} (h : EvT Z tt Γ kb) (i : ∀ b Γ', kb b Γ' → kb' b Γ') : EvT Z tt Γ kb' := fun σ H B I Q q => h σ H B I Q fun b Γ' H' B' I' s kk => q b Γ' H' B' I' s (i _ _ kk)
theorem et_test (h : Ev Z te Γ fun r Γ1 => ∃ b, r = .d (.bl b) ∧ kb b Γ1) : EvT Z (tTest te) Γ kb := fun σ H B I Q q => h σ H B I _ fun r Γ1 v H1 B1 I1 s x ⟨b, e, kk⟩ => by
  subst e
  cases x
  exact ⟨b, rfl, q b Γ1 H1 B1 I1 s kk⟩
theorem et_B (h : Ev Z te Γ fun r Γ1 => ∃ b, r = .d (.bl b) ∧ kb b Γ1) : EvT Z (tB te) Γ kb := fun σ H B I Q q => h σ H B I _ fun r Γ1 v H1 B1 I1 s x ⟨b, e, kk⟩ => by
  subst e
  cases x
  exact ⟨b, rfl, q b Γ1 H1 B1 I1 s kk⟩
theorem et_not (h : EvT Z tt Γ fun b Γ1 => kb (!b) Γ1) : EvT Z (tNot tt) Γ kb := fun σ H B I Q q => h σ H B I _ fun b Γ1 H1 B1 I1 s kk => q _ Γ1 H1 B1 I1 s kk
theorem et_and (h : EvT Z tt Γ fun b Γ1 => (b = true → EvT Z tu Γ1 kb) ∧ (b = false → kb false Γ1)) : EvT Z (tAnd tt tu) Γ kb := fun σ H B I Q q => h σ H B I _ fun b Γ1 H1 B1 I1 s kk => by
  cases b with
  | true => exact kk.1 rfl σ H1 B1 I1 Q fun b Γ2 H2 B2 I2 s2 k2 => q b Γ2 H2 B2 I2 (s.trans s2) k2
  | false => exact q false Γ1 H1 B1 I1 s (kk.2 rfl)
theorem et_or (h : EvT Z tt Γ fun b Γ1 => (b = true → kb true Γ1) ∧ (b = false → EvT Z tu Γ1 kb)) : EvT Z (tOr tt tu) Γ kb := fun σ H B I Q q => h σ H B I _ fun b Γ1 H1 B1 I1 s kk => by
  cases b with
  | true => exact q true Γ1 H1 B1 I1 s (kk.1 rfl)
  | false => exact kk.2 rfl σ H1 B1 I1 Q fun b Γ2 H2 B2 I2 s2 k2 => q b Γ2 H2 B2 I2 (s.trans s2) k2
theorem ev_andV (h : Ev Z ta Γ fun r Γ1 => ∃ b, r = .d (.bl b) ∧ (b = true → Ev Z tb Γ1 k) ∧ (b = false → k (.d (.bl false)) Γ1)) : Ev Z (tAndV ta tb) Γ k := fun σ H B I Q q => h σ H B I _ fun r Γ1 v H1 B1 I1 s x ⟨b, e, k1, k2⟩ => by
  subst e
  cases x
  refine ⟨b, rfl, ?_⟩
  cases b with
  | true => exact k1 rfl σ H1 B1 I1 Q fun r Γ2 v H2 B2 I2 s2 x2 kk => q r Γ2 v H2 B2 I2 (s.trans s2) x2 kk
  | false => exact q (.d (.bl false)) Γ1 _ H1 B1 I1 s (.bl false) (k2 rfl)
theorem ev_orV (h : Ev Z ta Γ fun r Γ1 => ∃ b, r = .d (.bl b) ∧ (b = true → k (.d (.bl true)) Γ1) ∧ (b = false → Ev Z tb Γ1 k)) : Ev Z (tOrV ta tb) Γ k := fun σ H B I Q q => h σ H B I _ fun r Γ1 v H1 B1 I1 s x ⟨b, e, k1, k2⟩ => by
  subst e
  cases x
  refine ⟨b, rfl, ?_⟩
  cases b with
  | false => exact k2 rfl σ H1 B1 I1 Q fun r Γ2 v H2 B2 I2 s2 x2 kk => q r Γ2 v H2 B2 I2 (s.trans s2) x2 kk
  | true => exact q (.d (.bl true)) Γ1 _ H1 B1 I1 s (.bl true) (k1 rfl)
theorem ev_notV (h : Ev Z ta Γ fun r Γ1 => ∃ b, r = .d (.bl b) ∧ k (.d (.bl (!b))) Γ1) : Ev Z (tNotV ta) Γ k := fun σ H B I Q q => h σ H B I _ fun r Γ1 v H1 B1 I1 s x ⟨b, e, kk⟩ => by
  subst e
  cases x
  exact ⟨b, rfl, q (.d (.bl (!b))) Γ1 _ H1 B1 I1 s (.bl _) kk⟩
theorem ev_chain {r r' : R2} {tc : TE} (h : Ev Z ta Γ fun r1 Γ1 => Ev Z tb Γ1 fun r2 Γ2 => Op2 Z r r1.fz r2.fz Γ2 fun r3 Γ3 => ∃ b, r3 = .d (.bl b) ∧ (b = true → Ev Z tc Γ3 fun r4 Γ4 => Op2 Z r' r2.fz r4.fz Γ4 k) ∧ (b = false → k (.d (.bl false)) Γ3)) :
    Ev Z (tChain r r' ta tb tc) Γ k := by
  have h' : Ev Z ta Γ fun r1 Γ1 => r1.st = true ∧ Ev Z tb Γ1 fun r2 Γ2 => r2.st = true ∧ Op2 Z r r1 r2 Γ2 fun r3 Γ3 => ∃ b, r3 = .d (.bl b) ∧ (b = true → Ev Z tc Γ3 fun r4 Γ4 => Op2 Z r' r2 r4 Γ4 k) ∧ (b = false → k (.d (.bl false)) Γ3) :=
    ev_fz (h.imp fun r1 Γ1 h1 => ⟨fz_st r1, ev_fz (h1.imp fun r2 Γ2 h2 => ⟨fz_st r2, fun σ H B v1 v2 I x1 x2 Q q => h2 σ H B v1 v2 I x1 x2 Q fun r3 Γ3 v H3 B3 I3 s3 x3 ⟨b, e, a1, a2⟩ => q r3 Γ3 v H3 B3 I3 s3 x3 ⟨b, e, fun z => ev_fz (a1 z), a2⟩⟩)⟩)
  exact fun σ H B I Q q => h' σ H B I _ fun r1 Γ1 v1 H1 B1 I1 s1 x1 ⟨t1, k1⟩ => k1 σ H1 B1 I1 _ fun r2 Γ2 v2 H2 B2 I2 s2 x2 ⟨t2, k2⟩ => k2 σ H2 B2 v1 v2 I2 (x1.mono t1 s2) x2 _ fun r3 Γ3 v3 H3 B3 I3 s3 x3 ⟨b, e, a1, a2⟩ => by
    subst e
    cases x3
    refine ⟨b, rfl, ?_⟩
    cases b with
    | true => exact a1 rfl σ H3 B3 I3 _ fun r4 Γ4 v4 H4 B4 I4 s4 x4 k4 => k4 σ H4 B4 v2 v4 I4 (x2.mono t2 (s3.trans s4)) x4 Q fun r Γ' v H' B' I' s x kk => q r Γ' v H' B' I' ((((s1.trans s2).trans s3).trans s4).trans s) x kk
    | false => exact q (.d (.bl false)) Γ3 _ H3 B3 I3 ((s1.trans s2).trans s3) (.bl false) (a2 rfl)
theorem ev_if (h : EvT Z tt Γ fun b Γ1 => (b = true → Ev Z ta Γ1 k) ∧ (b = false → Ev Z tb Γ1 k)) : Ev Z (tIf tt ta tb) Γ k := fun σ H B I Q q => h σ H B I _ fun b Γ1 H1 B1 I1 s kk => by
  cases b with
  | true => exact kk.1 rfl σ H1 B1 I1 Q fun r Γ2 v H2 B2 I2 s2 x2 k2 => q r Γ2 v H2 B2 I2 (s.trans s2) x2 k2
  | false => exact kk.2 rfl σ H1 B1 I1 Q fun r Γ2 v H2 B2 I2 s2 x2 k2 => q r Γ2 v H2 B2 I2 (s.trans s2) x2 k2

/-! ### calls of built-ins, methods -/
def Cb (Z : Zn) (r : List V → Hp → VK → Prop) (rs : List Rz) (Γ : List Kd) (k : Rz → List Kd → Prop) : Prop :=
  ∀ σ H B vs, EnvOk Z Γ σ H B → RzsOk Z σ B vs rs → ∀ Q : VK, (∀ r Γ' v H' B', EnvOk Z Γ' σ H' B' → Sb B B' → RzOk Z σ Γ' B' H' v r → k r Γ' → Q v H') → r vs H Q
theorem ev_cb {r : List V → Hp → VK → Prop} {ta : TA} (h : EvA Z ta Γ fun rs Γ1 => Cb Z r rs Γ1 k) : Ev Z (tCB r ta) Γ k := fun σ H B I Q q =>
  h σ H B I _ fun rs Γ1 vs H1 B1 I1 s1 x1 k1 => k1 σ H1 B1 vs I1 x1 Q fun r Γ' v H' B' I' s x kk => q r Γ' v H' B' I' (s1.trans s) x kk
def Mt (Z : Zn) (r : V → List V → Hp → VK → Prop) (r0 : Rz) (rs : List Rz) (Γ : List Kd) (k : Rz → List Kd → Prop) : Prop :=
  ∀ σ H B v vs, EnvOk Z Γ σ H B → RzOk Z σ Γ B H v r0 → RzsOk Z σ B vs rs → ∀ Q : VK, (∀ r Γ' v H' B', EnvOk Z Γ' σ H' B' → Sb B B' → RzOk Z σ Γ' B' H' v r → k r Γ' → Q v H') → r v vs H Q
/-- the receiver's type -/
def tyD (T : String) : D → Prop
  | .str _ => T = "str"
  | .lst _ => T = "list"
  | .dI _ => T = "dict"
  | _ => False
theorem tyD_ok {K : PySem.W.Frag} {w : World} {B H : Hp} {v : V} {d : D} {T : String} (hs : Sb B H) (x : Vw w B H v d) (t : tyD T d) : tyV K T v H := by
  cases d with
  | str s => rw [x.str]; exact t
  | lst ds =>
    obtain ⟨p, xs, rfl, h, _⟩ := x.lst hs
    exact .inl ⟨t, xs, SqL.of h⟩
  | dI kvs =>
    obtain ⟨p, rfl, xs, ks, ds, h, _⟩ := x.ob hs rfl
    exact .inr (.inr (.inl ⟨t, .inl ⟨xs, h⟩⟩))
  | _ => exact False.elim t
theorem ev_bm {K : PySem.W.Frag} {T : String} {r : V → List V → Hp → VK → Prop} {to : TE} {ta : TA} (h : Ev Z to Γ fun r0 Γ1 => (∃ d, vw Γ1 r0.fz = some d ∧ tyD T d) ∧ EvA Z ta Γ1 fun rs Γ2 => Mt Z r r0.fz rs Γ2 k) : Ev Z (tBM K T r to ta) Γ k := by
  have h' : Ev Z to Γ fun r0 Γ1 => r0.st = true ∧ (∃ d, vw Γ1 r0 = some d ∧ tyD T d) ∧ EvA Z ta Γ1 fun rs Γ2 => Mt Z r r0 rs Γ2 k := ev_fz (h.imp fun r Γ1 h1 => ⟨fz_st r, h1⟩)
  exact fun σ H B I Q q => h' σ H B I _ fun r0 Γ1 v H1 B1 I1 s1 x1 ⟨t1, ⟨d, e, td⟩, k1⟩ => ⟨tyD_ok I1.sub (vw_ok I1 x1 e) td, k1 σ H1 B1 I1 _ fun rs Γ2 vs H2 B2 I2 s2 x2 k2 => k2 σ H2 B2 v vs I2 (x1.mono t1 s2) x2 Q fun r Γ' v H' B' I' s x kk => q r Γ' v H' B' I' ((s1.trans s2).trans s) x kk⟩
theorem ev_bm0 {K : PySem.W.Frag} {T : String} {r : V → List V → Hp → VK → Prop} {to : TE} (h : Ev Z to Γ fun r0 Γ1 => (∃ d, vw Γ1 r0.fz = some d ∧ tyD T d) ∧ Mt Z r r0.fz [] Γ1 k) : Ev Z (tBM0 K T r to) Γ k := by
  have h' : Ev Z to Γ fun r0 Γ1 => (∃ d, vw Γ1 r0 = some d ∧ tyD T d) ∧ Mt Z r r0 [] Γ1 k := ev_fz h
  exact fun σ H B I Q q => h' σ H B I _ fun r0 Γ1 v H1 B1 I1 s1 x1 ⟨⟨d, e, td⟩, k1⟩ => ⟨tyD_ok I1.sub (vw_ok I1 x1 e) td, k1 σ H1 B1 v [] I1 x1 .nil Q fun r Γ' v H' B' I' s x kk => q r Γ' v H' B' I' (s1.trans s) x kk⟩
theorem RzsOk.one {σ : L2.St} {B : Hp} {vs : List V} {r : Rz} (x : RzsOk Z σ B vs [r]) : ∃ v, vs = [v] ∧ ∀ Γ H, RzOk Z σ Γ B H v r := by
  cases x with
  | cons a b c => cases c; exact ⟨_, rfl, b⟩
theorem RzsOk.two {σ : L2.St} {B : Hp} {vs : List V} {r r' : Rz} (x : RzsOk Z σ B vs [r, r']) : ∃ v v', vs = [v, v'] ∧ (∀ Γ H, RzOk Z σ Γ B H v r) ∧ ∀ Γ H, RzOk Z σ Γ B H v' r' := by
  cases x with
  | cons a b c =>
    obtain ⟨v', rfl, d⟩ := c.one
    exact ⟨_, _, rfl, b, d⟩
theorem RzsOk.zero {σ : L2.St} {B : Hp} {vs : List V} (x : RzsOk Z σ B vs []) : vs = [] := by
  cases x
  rfl
/-- a call without a change of the heap, one argument -/
theorem cb_val {r : List V → Hp → VK → Prop} {r1 : Rz} {d1 d : D} (e1 : vw Γ r1 = some d1) (h : ∀ B H v1, Sb B H → Vw Z.w B H v1 d1 → ∀ Q : VK, (∀ v, R Z.w B v d → Q v H) → r [v1] H Q) (hk : k (.d d) Γ) : Cb Z r [r1] Γ k := fun σ H B vs I x Q q => by
  obtain ⟨v, rfl, y⟩ := x.one
  exact h B H v I.sub (vw_ok I (y Γ H) e1) Q fun v x => q (.d d) Γ v H B I (Sb.refl B) x hk
/-- .. that makes a list -/
theorem cb_new {r : List V → Hp → VK → Prop} {r1 : Rz} {d1 : D} {ds : List D} (e1 : vw Γ r1 = some d1) (h : ∀ B H v1, Sb B H → Vw Z.w B H v1 d1 → ∀ Q : VK, (∀ p xs, H p = none → Rs Z.w B xs ds → Q (.ref p) (upd H p (.lst xs))) → r [v1] H Q) (hk : k (.n (.lst ds)) Γ) : Cb Z r [r1] Γ k := fun σ H B vs I x Q q => by
  obtain ⟨v, rfl, y⟩ := x.one
  exact h B H v I.sub (vw_ok I (y Γ H) e1) Q fun p xs hp r => q (.n (.lst ds)) Γ _ _ B (I.free hp) (Sb.refl B) (RzOk.new I hp ⟨xs, upd_same, r⟩) hk

/-! ### statements -/
structure Eg where
  nx : List Kd → Prop
  rt : Rz → List Kd → Prop
  bk : List Kd → Prop := fun _ => False
  ct : List Kd → Prop := fun _ => False
structure Sat (Z : Zn) (B0 : Hp) (E : Eg) (D : Ends) : Prop where
  nx : ∀ σ H B Γ, EnvOk Z Γ σ H B → Sb B0 B → E.nx Γ → D.nx σ H
  rt : ∀ σ H B Γ v r, EnvOk Z Γ σ H B → Sb B0 B → RzOk Z σ Γ B H v r → E.rt r Γ → D.rt v H
  bk : ∀ σ H B Γ, EnvOk Z Γ σ H B → Sb B0 B → E.bk Γ → D.bk σ H
  ct : ∀ σ H B Γ, EnvOk Z Γ σ H B → Sb B0 B → E.ct Γ → D.ct σ H
theorem Sat.mono {Z : Zn} {B0 B1 : Hp} {E : Eg} {D : Ends} (s : Sat Z B0 E D) (h : Sb B0 B1) : Sat Z B1 E D :=
  ⟨fun σ H B Γ I b e => s.nx σ H B Γ I (h.trans b) e, fun σ H B Γ v r I b x e => s.rt σ H B Γ v r I (h.trans b) x e, fun σ H B Γ I b e => s.bk σ H B Γ I (h.trans b) e, fun σ H B Γ I b e => s.ct σ H B Γ I (h.trans b) e⟩
def St (Z : Zn) (ts : TS) (Γ : List Kd) (E : Eg) : Prop := ∀ σ H B, EnvOk Z Γ σ H B → ∀ D : Ends, Sat Z B E D → ts D σ H
variable {E : Eg} {t u : TS} {g : TG}
theorem st_next (h : E.nx Γ) : St Z tNext Γ E := fun σ H B I D s => s.nx σ H B Γ I (Sb.refl B) h
theorem st_seq (h : St Z t Γ { E with nx := fun Γ1 => St Z u Γ1 E }) : St Z (tSeq t u) Γ E := fun σ H B I D s =>
  h σ H B I _ ⟨fun σ1 H1 B1 Γ1 I1 b1 h1 => h1 σ1 H1 B1 I1 D (s.mono b1), s.rt, s.bk, s.ct⟩
theorem st_break (h : E.bk Γ) : St Z tBreak Γ E := fun σ H B I D s => s.bk σ H B Γ I (Sb.refl B) h
theorem st_cont (h : E.ct Γ) : St Z tCont Γ E := fun σ H B I D s => s.ct σ H B Γ I (Sb.refl B) h
theorem st_ret (h : Ev Z te Γ fun r Γ1 => E.rt r.fz Γ1) : St Z (tRet te) Γ E := by
  have h' : Ev Z te Γ fun r Γ1 => r.st = true ∧ E.rt r Γ1 := ev_fz (h.imp fun r Γ1 h1 => ⟨fz_st r, h1⟩)
  exact fun σ H B I D s => h' σ H B I _ fun r Γ1 v H1 B1 I1 s1 x1 ⟨t1, k1⟩ => s.rt σ H1 B1 Γ1 v r I1 s1 x1 k1
/-- .. a new object handed out as one's own -/
theorem st_retO (h : Ev Z te Γ fun r Γ1 => E.rt r Γ1) : St Z (tRet te) Γ E := fun σ H B I D s => h σ H B I _ fun r Γ1 v H1 B1 I1 s1 x1 k1 => s.rt σ H1 B1 Γ1 v r I1 s1 x1 k1
theorem st_retN (h : E.rt (.d .non) Γ) : St Z tRetN Γ E := fun σ H B I D s => s.rt σ H B Γ _ (.d .non) I (Sb.refl B) R.non h
theorem st_if (h : EvT Z tt Γ fun b Γ1 => (b = true → St Z t Γ1 E) ∧ (b = false → St Z u Γ1 E)) : St Z (tIfS tt t u) Γ E := fun σ H B I D s => h σ H B I _ fun b Γ1 H1 B1 I1 s1 kk => by
  cases b with
  | true => exact kk.1 rfl σ H1 B1 I1 D (s.mono s1)
  | false => exact kk.2 rfl σ H1 B1 I1 D (s.mono s1)
theorem st_drop (h : Ev Z te Γ fun r Γ1 => E.nx Γ1) : St Z (tDrop te) Γ E := fun σ H B I D s => h σ H B I _ fun r Γ1 v H1 B1 I1 s1 x1 k1 => s.nx σ H1 B1 Γ1 I1 s1 k1
/-- an own object stands from now on -/
theorem st_freeze (i : Nat) {d : D} (hg : Γ[i]? = some (.ob true d)) (h : St Z t (Γ.set i (.dat d)) E) : St Z t Γ E := fun σ H B I D s => by
  obtain ⟨B', hs, I'⟩ := I.freeze hg
  exact h σ H B' I' D (s.mono hs)
theorem ev_freeze (i : Nat) {d : D} (hg : Γ[i]? = some (.ob true d)) (h : Ev Z te (Γ.set i (.dat d)) k) : Ev Z te Γ k := fun σ H B I Q q => by
  obtain ⟨B', hs, I'⟩ := I.freeze hg
  exact h σ H B' I' Q fun r Γ1 v H1 B1 I1 s1 x1 k1 => q r Γ1 v H1 B1 I1 (hs.trans s1) x1 k1

/-! ### targets -/
def kdOf : Rz → Kd
  | .d d => .dat d
  | .n d => .ob true d
  | .x v => .raw v
  | .o _ => .any
def Tg (Z : Zn) (g : TG) (r : Rz) (Γ : List Kd) (k : List Kd → Prop) : Prop :=
  ∀ σ H B v, EnvOk Z Γ σ H B → RzOk Z σ Γ B H v r → ∀ Q : L2.St → Hp → Prop, (∀ Γ' σ', EnvOk Z Γ' σ' H B → k Γ' → Q σ' H) → g v σ H Q
variable {kt : List Kd → Prop}
theorem set_ok {σ : L2.St} {H B : Hp} {v : V} {r : Rz} {i : Nat} (I : EnvOk Z Γ σ H B) (x : RzOk Z σ Γ B H v r) (hi : i < Γ.length) : EnvOk Z (Γ.set i (kdOf r)) (σ.set i (some v)) H B := by
  refine I.set hi ?_ ?_
  · cases r with
    | d d => exact ⟨v, rfl, x⟩
    | o j => trivial
    | n d =>
      obtain ⟨p, rfl, y, b, c, _⟩ := x
      exact ⟨p, rfl, y, b, by rw [if_pos rfl]; exact c⟩
    | x u => exact congrArg some x
  · intro f d p e1 e2 j g d' hj hg
    cases r with
    | n d2 =>
      obtain ⟨p', e3, _, _, _, y⟩ := x
      rw [e2] at e3
      cases e3
      exact y j g d' hg
    | _ => cases e1
theorem tg_name {i : Nat} {r : Rz} (hi : i < Γ.length) (h : kt (Γ.set i (kdOf r))) : Tg Z (gName i) r Γ kt := fun σ H B v I x Q q => q _ _ (set_ok I x hi) h
def Tgs (Z : Zn) (g : TGs) (ds : List D) (Γ : List Kd) (k : List Kd → Prop) : Prop :=
  ∀ σ H B vs, EnvOk Z Γ σ H B → Rs Z.w B vs ds → ∀ Q : L2.St → Hp → Prop, (∀ Γ' σ', EnvOk Z Γ' σ' H B → k Γ' → Q σ' H) → g vs σ H Q
theorem tgs_nil (h : kt Γ) : Tgs Z gNil [] Γ kt := fun σ H B vs I x Q q => by
  cases x
  exact ⟨rfl, q _ _ I h⟩
theorem tgs_cons {gs : TGs} {d : D} {ds : List D} (h : Tg Z g (.d d) Γ fun Γ1 => Tgs Z gs ds Γ1 kt) : Tgs Z (gCons g gs) (d :: ds) Γ kt := fun σ H B vs I x Q q => by
  cases x with
  | cons x1 x2 => exact ⟨_, _, rfl, h σ H B _ I x1 _ fun Γ1 σ1 I1 k1 => k1 σ1 H B _ I1 x2 Q q⟩
theorem tg_tup {K : PySem.W.Frag} {n : Nat} {gs : TGs} {ds : List D} (hn : ds.length = n) (h : Tgs Z gs ds Γ kt) : Tg Z (gTup K n gs) (.d (.tup ds)) Γ kt := fun σ H B v I x Q q => by
  obtain ⟨p, rfl, xs, e, r⟩ := R.ob x rfl
  exact ⟨p, xs, rfl, SqT.of (I.sub _ _ e), by rw [r.length]; exact hn, h σ H B xs I r Q q⟩
/-- target = e -/
theorem st_asg (h : Ev Z te Γ fun r Γ1 => Tg Z g r Γ1 E.nx) : St Z (tAsg te g) Γ E := fun σ H B I D s => h σ H B I _ fun r Γ1 v H1 B1 I1 s1 x1 k1 => k1 σ H1 B1 v I1 x1 _ fun Γ' σ' I' kk => s.nx σ' H1 B1 Γ' I' s1 kk
/-- .. frozen -/
theorem st_asgF (h : Ev Z te Γ fun r Γ1 => Tg Z g r.fz Γ1 E.nx) : St Z (tAsg te g) Γ E := st_asg (ev_fz h)
/-- name op= e -/
theorem st_aug {i : Nat} {ti : TIp} {d1 : D} (hi : Γ[i]? = some (.dat d1)) (h : Ev Z te Γ fun r Γ1 => Γ1[i]? = some (.dat d1) ∧ Op2 Z ti (.d d1) r.fz Γ1 fun r' Γ2 => i < Γ2.length ∧ E.nx (Γ2.set i (kdOf r'))) : St Z (tAug i te ti) Γ E := fun σ H B I D s => by
  obtain ⟨v, h1, v', h2, h3⟩ := I.slot hi (fun z => nomatch z)
  cases h2
  have h' : Ev Z te Γ fun r Γ1 => Γ1[i]? = some (.dat d1) ∧ Op2 Z ti (.d d1) r Γ1 fun r' Γ2 => i < Γ2.length ∧ E.nx (Γ2.set i (kdOf r')) := ev_fz h
  exact ⟨v, h1, h' σ H B I _ fun r Γ1 v1 H1 B1 I1 s1 x1 ⟨_, k1⟩ => k1 σ H1 B1 v v1 I1 (h3.mono s1) x1 _ fun r' Γ2 v2 H2 B2 I2 s2 x2 ⟨hl, k2⟩ => s.nx _ H2 B2 _ (set_ok I2 x2 hl) (s1.trans s2) k2⟩

/-! ### loops -/
theorem st_while (W : Nat → List Kd → Prop) (m : Nat) (h0 : W m Γ)
    (hs : ∀ m Γ, W m Γ → EvT Z tt Γ fun b Γ1 => (b = true → St Z t Γ1 { E with nx := fun Γ' => ∃ m', m' < m ∧ W m' Γ', ct := fun Γ' => ∃ m', m' < m ∧ W m' Γ', bk := E.nx }) ∧ (b = false → E.nx Γ1)) : St Z (tWhile tt t) Γ E := fun σ H B0 I D s => by
  refine ⟨fun m σ H => ∃ Γ B, EnvOk Z Γ σ H B ∧ Sb B0 B ∧ W m Γ, ⟨m, Γ, B0, I, Sb.refl _, h0⟩, ?_⟩
  rintro m σ H ⟨Γ, B, I, hB, w⟩
  refine hs m Γ w σ H B I _ fun b Γ1 H1 B1 I1 s1 kk => ?_
  cases b with
  | true =>
    refine ⟨fun σ' H' => ∃ m', m' < m ∧ ∃ Γ B, EnvOk Z Γ σ' H' B ∧ Sb B0 B ∧ W m' Γ, fun σ' H' h => h, ?_⟩
    have s' := s.mono (hB.trans s1)
    refine kk.1 rfl σ H1 B1 I1 _ ⟨?_, s'.rt, s'.nx, ?_⟩
    · rintro σ2 H2 B2 Γ2 I2 b2 ⟨m', hm, w'⟩
      exact ⟨m', hm, Γ2, B2, I2, (hB.trans s1).trans b2, w'⟩
    · rintro σ2 H2 B2 Γ2 I2 b2 ⟨m', hm, w'⟩
      exact ⟨m', hm, Γ2, B2, I2, (hB.trans s1).trans b2, w'⟩
  | false => exact s.nx σ H1 B1 Γ1 I1 (hB.trans s1) (kk.2 rfl)
/-- what is walked: the items ds -/
structure Iz (w : World) (J : It) (ds : List D) (B0 : Hp) : Prop where
  stop : ∀ H B, Sb B0 B → Sb B H → J.stop ds.length H
  go : ∀ i H B, Sb B0 B → Sb B H → i < ds.length → J.go i H
  yld : ∀ (T : List NdefX.NTab) i H B x H', i < ds.length → Sb B0 B → Sb B H → (∀ a o, B a = some o → NT o) → NdefX.TabsN T H → J.yld i H x H' → ∃ B' d, Grow T H B H' B' ∧ ds[i]? = some d ∧ R w B' x d
def ItD (Z : Zn) (wi : TI) (Γ : List Kd) (k : List D → List Kd → Prop) : Prop :=
  ∀ σ H B, EnvOk Z Γ σ H B → ∀ Rr : It → Hp → Prop, (∀ J ds Γ' H' B', EnvOk Z Γ' σ H' B' → Sb B B' → Iz Z.w J ds B' → k ds Γ' → Rr J H') → wi σ H Rr
theorem st_for {wi : TI} (h : ItD Z wi Γ fun ds Γ1 => ∃ G : List D → List Kd → Prop, G [] Γ1 ∧
      (∀ pre x post, ds = pre ++ x :: post → ∀ Γ, G pre Γ → Tg Z g (.d x) Γ fun Γ2 => St Z t Γ2 { E with nx := G (pre ++ [x]), ct := G (pre ++ [x]), bk := E.nx }) ∧ ∀ Γ, G ds Γ → E.nx Γ) : St Z (tFor wi g t) Γ E := fun σ H B I D s => by
  refine h σ H B I _ fun J ds Γ1 H1 B1 I1 s1 z ⟨G, g0, gs, gd⟩ => ?_
  refine ⟨fun i m σ H => m = ds.length - i ∧ i ≤ ds.length ∧ ∃ Γ B, EnvOk Z Γ σ H B ∧ Sb B1 B ∧ G (ds.take i) Γ, ⟨_, rfl, Nat.zero_le _, Γ1, B1, I1, Sb.refl _, g0⟩, ?_⟩
  rintro i m σ H ⟨rfl, hi, Γ, B, I, hB, gi⟩
  by_cases hlt : i < ds.length
  · refine .inr ⟨z.go i H B hB I.sub hlt, fun σ' H' => ∃ Γ B, EnvOk Z Γ σ' H' B ∧ Sb B1 B ∧ G (ds.take (i + 1)) Γ, fun σ' H' h => ⟨ds.length - (i + 1), by omega, rfl, hlt, h⟩, fun x H' y => ?_⟩
    obtain ⟨B', d, gr, hd, r⟩ := z.yld Z.T i H B x H' hlt hB I.sub I.nt I.tabs y
    have et : ds.take (i + 1) = ds.take i ++ [d] := by rw [List.take_add_one, hd]; rfl
    have ep : ds = ds.take i ++ d :: ds.drop (i + 1) := by
      have h2 : ds[i] = d := by rw [List.getElem?_eq_getElem hlt] at hd; exact Option.some.inj hd
      rw [← h2]
      simp
    have I' := I.grow gr
    have hB' : Sb B1 B' := hB.trans gr.base
    refine gs (ds.take i) d _ ep Γ gi σ H' B' x I' r _ fun Γ2 σ2 I2 k2 => ?_
    have s' := s.mono (s1.trans hB')
    refine k2 σ2 H' B' I2 _ ⟨?_, s'.rt, s'.nx, ?_⟩
    · intro σ3 H3 B3 Γ3 I3 b3 g3
      exact ⟨Γ3, B3, I3, hB'.trans b3, by rw [et]; exact g3⟩
    · intro σ3 H3 B3 Γ3 I3 b3 g3
      exact ⟨Γ3, B3, I3, hB'.trans b3, by rw [et]; exact g3⟩
  · have e : i = ds.length := by omega
    subst e
    rw [List.take_length] at gi
    exact .inl ⟨z.stop H B hB I.sub, s.nx σ H B Γ I (s1.trans hB) (gd Γ gi)⟩
end
end Gm
namespace Gm
open PySem PySem.Spec PyProof.Rows L2

/-! ### what is walked -/
def chars (s : Str) : List Str := s.cps.toList.map fun c => ⟨#[c]⟩
theorem iz_list {K : PySem.W.Frag} {w : World} {B : Hp} {a : Addr} {xs : List V} {ds : List D} (e : B a = some (.lst xs)) (r : Rs w B xs ds) : Iz w (Itl K a) ds B where
  stop := fun H B' h1 h2 => ⟨xs, SqL.of (h2 _ _ (h1 _ _ e)), by rw [r.length]; exact Nat.le_refl _⟩
  go := fun i H B' h1 h2 hi => by
    rw [← r.length] at hi
    exact ⟨xs, xs[i], SqL.of (h2 _ _ (h1 _ _ e)), by simp [hi]⟩
  yld := fun T i H B' x H' hi h1 h2 h3 h4 y => by
    obtain ⟨rfl, y⟩ := y
    obtain ⟨d, hd, rd⟩ := r.get (y xs (SqL.of (h2 _ _ (h1 _ _ e))))
    exact ⟨B', d, Grow.refl h2 h3 h4, hd, rd.mono h1⟩
theorem iz_tup {K : PySem.W.Frag} {w : World} {B : Hp} {a : Addr} {xs : List V} {ds : List D} (e : B a = some (.tup xs)) (r : Rs w B xs ds) : Iz w (Itt K a) ds B where
  stop := fun H B' h1 h2 => ⟨xs, SqT.of (h2 _ _ (h1 _ _ e)), by rw [r.length]; exact Nat.le_refl _⟩
  go := fun i H B' h1 h2 hi => by
    rw [← r.length] at hi
    exact ⟨xs, xs[i], SqT.of (h2 _ _ (h1 _ _ e)), by simp [hi]⟩
  yld := fun T i H B' x H' hi h1 h2 h3 h4 y => by
    obtain ⟨rfl, y⟩ := y
    obtain ⟨d, hd, rd⟩ := r.get (y xs (SqT.of (h2 _ _ (h1 _ _ e))))
    exact ⟨B', d, Grow.refl h2 h3 h4, hd, rd.mono h1⟩
theorem iz_str {w : World} {B : Hp} (s : Str) : Iz w (Its s) ((chars s).map D.str) B where
  stop := fun H B' h1 h2 => by
    show s.cps.size ≤ _
    unfold chars
    simp
  go := fun i H B' h1 h2 hi => by
    unfold chars at hi
    simp at hi
    exact hi
  yld := fun T i H B' x H' hi h1 h2 h3 h4 y => by
    obtain ⟨rfl, c, hc, rfl⟩ := y
    refine ⟨B', .str ⟨#[c]⟩, Grow.refl h2 h3 h4, ?_, .str _⟩
    unfold chars
    rw [List.getElem?_map, List.getElem?_map, Array.getElem?_toList, hc]
    rfl
theorem iz_range {w : World} {B : Hp} (lo : Int) (n : Nat) : Iz w (Itr lo n) ((List.range n).map fun (i : Nat) => D.int (lo + (i : Int))) B where
  stop := fun H B' h1 h2 => by
    show n ≤ _
    simp
  go := fun i H B' h1 h2 hi => by
    simp at hi
    exact hi
  yld := fun T i H B' x H' hi h1 h2 h3 h4 y => by
    obtain ⟨rfl, rfl⟩ := y
    refine ⟨B', .int (lo + (i : Int)), Grow.refl h2 h3 h4, ?_, .int _⟩
    simp at hi
    simp [hi]
/-- the items with their numbers -/
def enumD : Nat → List D → List D
  | _, [] => []
  | i, d :: ds => .tup [.int (i : Int), d] :: enumD (i + 1) ds
theorem enumD_length : ∀ (ds : List D) (i : Nat), (enumD i ds).length = ds.length
  | [], _ => rfl
  | d :: ds, i => congrArg Nat.succ (enumD_length ds (i + 1))
theorem enumD_get : ∀ (ds : List D) (i j : Nat) (d : D), ds[j]? = some d → (enumD i ds)[j]? = some (.tup [.int ((i + j : Nat) : Int), d])
  | [], _, _, _, h => by simp at h
  | d :: ds, i, 0, d', h => by simp at h; subst h; rfl
  | d :: ds, i, j + 1, d', h => by
    have h' : ds[j]? = some d' := by simpa using h
    have e := enumD_get ds (i + 1) j d' h'
    show (enumD (i + 1) ds)[j]? = _
    rw [e]
    have : i + 1 + j = i + (j + 1) := by omega
    rw [this]
theorem iz_enum {K : PySem.W.Frag} {w : World} {B : Hp} {a : Addr} {xs : List V} {ds : List D} (e : B a = some (.lst xs)) (r : Rs w B xs ds) : Iz w (Ite K a) (enumD 0 ds) B where
  stop := fun H B' h1 h2 => ⟨xs, SqL.of (h2 _ _ (h1 _ _ e)), by rw [enumD_length, r.length]; exact Nat.le_refl _⟩
  go := fun i H B' h1 h2 hi => by
    rw [enumD_length, ← r.length] at hi
    exact ⟨xs, xs[i], SqL.of (h2 _ _ (h1 _ _ e)), by simp [hi]⟩
  yld := fun T i H B' x H' hi h1 h2 h3 h4 y => by
    obtain ⟨p, v, rfl, hp, rfl, y⟩ := y
    obtain ⟨d, hd, rd⟩ := r.get (y xs (SqL.of (h2 _ _ (h1 _ _ e))))
    have hs : Sb B' (upd B' p (.tup [.int (i : Nat), v])) := fun a u z => by rw [upd_ne (ne_of_none (h2 a u z) hp)]; exact z
    refine ⟨upd B' p (.tup [.int (i : Nat), v]), .tup [.int (i : Nat), d], grow_new h2 h3 h4 hp (fun _ z => nomatch z), ?_, R.tup upd_same (.cons (.int _) (.cons ((rd.mono h1).mono hs) .nil))⟩
    have q := enumD_get ds 0 i d hd
    rw [Nat.zero_add] at q
    exact q

/-! ### sources -/
def iSeq (K : PySem.W.Frag) (t : TE) : TI := fun σ H R => iList K t σ H R ∨ iTup K t σ H R ∨ iStr t σ H R
theorem pi_seq {X : Cx} {tg e : Expr} {t : TE} (h : PE X e t) : PI X tg e (iSeq X.K t) := ⟨fun pins s σ H R I q => by
  rcases q with q | q | q
  · exact (pi_list h).run pins s σ H R I q
  · exact (pi_tup h).run pins s σ H R I q
  · exact (pi_str h).run pins s σ H R I q⟩
section
variable {Z : Zn} {Γ : List Kd} {k : List D → List Kd → Prop} {te : TE} {ta : TA}
theorem it_list {K : PySem.W.Frag} (h : Ev Z te Γ fun r Γ1 => ∃ ds, r.fz = .d (.lst ds) ∧ k ds Γ1) : ItD Z (iSeq K te) Γ k := fun σ H B I Rr q => by
  have h' : Ev Z te Γ fun r Γ1 => ∃ ds, r = .d (.lst ds) ∧ k ds Γ1 := ev_fz h
  refine .inl (h' σ H B I _ fun r Γ1 v H1 B1 I1 s1 x1 ⟨ds, e, kk⟩ => ?_)
  subst e
  obtain ⟨p, rfl, xs, e, r⟩ := R.ob x1 rfl
  exact ⟨p, rfl, ⟨xs, SqL.of (I1.sub _ _ e)⟩, q _ ds Γ1 H1 B1 I1 s1 (iz_list e r) kk⟩
theorem it_tup {K : PySem.W.Frag} (h : Ev Z te Γ fun r Γ1 => ∃ ds, r.fz = .d (.tup ds) ∧ k ds Γ1) : ItD Z (iSeq K te) Γ k := fun σ H B I Rr q => by
  have h' : Ev Z te Γ fun r Γ1 => ∃ ds, r = .d (.tup ds) ∧ k ds Γ1 := ev_fz h
  refine .inr (.inl (h' σ H B I _ fun r Γ1 v H1 B1 I1 s1 x1 ⟨ds, e, kk⟩ => ?_))
  subst e
  obtain ⟨p, rfl, xs, e, r⟩ := R.ob x1 rfl
  exact ⟨p, rfl, ⟨xs, SqT.of (I1.sub _ _ e)⟩, q _ ds Γ1 H1 B1 I1 s1 (iz_tup e r) kk⟩
theorem it_str {K : PySem.W.Frag} (h : Ev Z te Γ fun r Γ1 => ∃ s, r = .d (.str s) ∧ k ((chars s).map D.str) Γ1) : ItD Z (iSeq K te) Γ k := fun σ H B I Rr q => by
  refine .inr (.inr (h σ H B I _ fun r Γ1 v H1 B1 I1 s1 x1 ⟨s, e, kk⟩ => ?_))
  subst e
  cases x1
  exact ⟨s, rfl, q _ _ Γ1 H1 B1 I1 s1 (iz_str s) kk⟩
theorem it_rng1 (h : EvA Z ta Γ fun rs Γ1 => ∃ n : Int, rs = [.d (.int n)] ∧ n ≤ 100000 ∧ 0 ≤ n ∧ k ((List.range n.toNat).map fun (i : Nat) => D.int (i : Int)) Γ1) : ItD Z (iRng1 ta) Γ k := fun σ H B I Rr q => by
  refine h σ H B I _ fun rs Γ1 vs H1 B1 I1 s1 x1 ⟨n, e, h1, h2, kk⟩ => ?_
  subst e
  obtain ⟨v, rfl, y⟩ := x1.one
  have y' := y Γ1 H1
  cases y'
  refine ⟨n, rfl, by omega, by omega, q _ _ Γ1 H1 B1 I1 s1 (iz_range 0 n.toNat) ?_⟩
  have e : (fun i : Nat => D.int (0 + (i : Int))) = fun i : Nat => D.int (i : Int) := by funext i; rw [Int.zero_add]
  rw [e]
  exact kk
theorem it_enum {K : PySem.W.Frag} (h : EvA Z ta Γ fun rs Γ1 => ∃ ds, rs = [.d (.lst ds)] ∧ k (enumD 0 ds) Γ1) : ItD Z (iEnum K ta) Γ k := fun σ H B I Rr q => by
  refine h σ H B I _ fun rs Γ1 vs H1 B1 I1 s1 x1 ⟨ds, e, kk⟩ => ?_
  subst e
  obtain ⟨v, rfl, y⟩ := x1.one
  obtain ⟨p, rfl, xs, e, r⟩ := R.ob (y Γ1 H1) rfl
  exact ⟨p, xs, rfl, SqL.of (I1.sub _ _ e), q _ _ Γ1 H1 B1 I1 s1 (iz_enum e r) kk⟩
end

/-! ### comprehensions -/
def wipeK (Γ : List Kd) : List Nat → List Kd
  | [] => Γ
  | v :: vs => (wipeK Γ vs).set v .any
theorem EnvOk.setNone {Z : Zn} {Γ : List Kd} {σ : L2.St} {H B : Hp} (I : EnvOk Z Γ σ H B) (i : Nat) : EnvOk Z (Γ.set i .any) (σ.set i none) H B where
  keepH := I.keepH
  there := I.there
  keepB := I.keepB
  sub := I.sub
  nt := I.nt
  apart := I.apart
  tabs := I.tabs
  len := by rw [List.length_set, List.length_set]; exact I.len
  slots := fun j k' e => by
    by_cases hj : i = j
    · subst hj
      by_cases hi : i < Γ.length
      · rw [List.getElem?_set_self hi] at e
        cases e
        trivial
      · rw [List.getElem?_eq_none (by rw [List.length_set]; omega)] at e
        cases e
    · rw [List.getElem?_set_ne hj] at e ⊢
      exact I.slots j k' e
  sep := fun a b f g d e p h1 h2 h3 h4 => by
    have ne : ∀ (a : Nat) (f : Bool) (d : D), (Γ.set i .any)[a]? = some (.ob f d) → i ≠ a := fun a f d h z => by
      subst z
      by_cases hi : i < Γ.length
      · rw [List.getElem?_set_self hi] at h; cases h
      · rw [List.getElem?_eq_none (by rw [List.length_set]; omega)] at h; cases h
    have n1 := ne a f d h1
    have n2 := ne b g e h2
    rw [List.getElem?_set_ne n1] at h1 h3
    rw [List.getElem?_set_ne n2] at h2 h4
    exact I.sep a b f g d e p h1 h2 h3 h4
  zM := I.zM
  zB := I.zB
theorem EnvOk.wipe {Z : Zn} {Γ : List Kd} {σ : L2.St} {H B : Hp} (I : EnvOk Z Γ σ H B) : ∀ vs : List Nat, EnvOk Z (wipeK Γ vs) (L2.wipe σ vs) H B
  | [] => I
  | v :: vs => (EnvOk.wipe I vs).setNone v
/-- the frame behind a block: its own slots as they were -/
def rst (vs : List Nat) : Nat → List Kd → List Kd → List Kd
  | n, a :: as, b :: bs => (if vs.contains n = true then a else b) :: rst vs (n + 1) as bs
  | _, _, _ => []
theorem rst_length (vs : List Nat) : ∀ (n : Nat) (as bs : List Kd), as.length = bs.length → (rst vs n as bs).length = bs.length
  | _, [], [], _ => rfl
  | n, a :: as, b :: bs, h => congrArg Nat.succ (rst_length vs (n + 1) as bs (by simpa using h))
theorem rst_get (vs : List Nat) : ∀ (n : Nat) (as bs : List Kd) (i : Nat) (k : Kd), as.length = bs.length → (rst vs n as bs)[i]? = some k → (vs.contains (n + i) = true ∧ as[i]? = some k) ∨ (vs.contains (n + i) = false ∧ bs[i]? = some k)
  | _, [], [], i, k, _, h => by simp [rst] at h
  | n, a :: as, b :: bs, 0, k, _, h => by
    simp only [rst, List.getElem?_cons_zero, Option.some.injEq] at h
    by_cases c : vs.contains n = true
    · rw [if_pos c] at h; exact .inl ⟨c, by simp [h]⟩
    · rw [if_neg c] at h; exact .inr ⟨by simpa using c, by simp [h]⟩
  | n, a :: as, b :: bs, i + 1, k, hl, h => by
    have h' : (rst vs (n + 1) as bs)[i]? = some k := by simpa [rst] using h
    have q := rst_get vs (n + 1) as bs i k (by simpa using hl) h'
    have e : n + 1 + i = n + (i + 1) := by omega
    rw [e] at q
    simpa using q
/-- the block's own slots hold no own object -/
def freeAt (vs : List Nat) (Γ : List Kd) : Bool := vs.all fun i => match Γ[i]? with
  | some k => !k.isOb
  | none => true
theorem EnvOk.unwipe {Z : Zn} {Γ Γ4 : List Kd} {σ σ2 : L2.St} {H H4 B B4 : Hp} {vs : List Nat} (I : EnvOk Z Γ σ H B) (J : EnvOk Z Γ4 σ2 H4 B4) (hs : Sb B B4) (hw : L2.wipe σ2 vs = L2.wipe σ vs) (hf : freeAt vs Γ = true) : EnvOk Z (rst vs 0 Γ Γ4) σ H4 B4 := by
  have hlen : σ2.length = σ.length := by rw [← wipe_length σ2 vs, hw, wipe_length]
  have hl : Γ.length = Γ4.length := by rw [I.len, J.len, hlen]
  have same : ∀ i, vs.contains i = false → σ2[i]? = σ[i]? := fun i h => by
    have hn : i ∉ vs := fun m => by
      have := List.contains_iff_mem.mpr m
      rw [h] at this
      cases this
    rw [← wipe_out (σ := σ2) hn, hw, wipe_out hn]
  have ob_at : ∀ (i : Nat) (f : Bool) (d : D), (rst vs 0 Γ Γ4)[i]? = some (.ob f d) → vs.contains i = false ∧ Γ4[i]? = some (.ob f d) := fun i f d h => by
    rcases rst_get vs 0 Γ Γ4 i _ hl h with ⟨h1, h2⟩ | ⟨h1, h2⟩
    · rw [Nat.zero_add] at h1
      have q := List.all_eq_true.mp hf i (List.contains_iff_mem.mp h1)
      rw [h2] at q
      cases q
    · rw [Nat.zero_add] at h1
      exact ⟨h1, h2⟩
  refine ⟨J.keepH, J.there, J.keepB, J.sub, J.nt, J.apart, J.tabs, by rw [rst_length vs 0 Γ Γ4 hl, J.len, hlen], fun i k h => ?_, fun a b f g d e p h1 h2 h3 h4 => ?_, J.zM, J.zB⟩
  · rcases rst_get vs 0 Γ Γ4 i k hl h with ⟨h1, h2⟩ | ⟨h1, h2⟩
    · rw [Nat.zero_add] at h1
      have q := List.all_eq_true.mp hf i (List.contains_iff_mem.mp h1)
      rw [h2] at q
      have w := I.slots i k h2
      cases k with
      | any => trivial
      | dat d => obtain ⟨v, e, r⟩ := w; exact ⟨v, e, r.mono hs⟩
      | ob f d => cases q
      | raw v => exact w
    · rw [Nat.zero_add] at h1
      have w := J.slots i k h2
      rw [same i h1] at w
      exact w
  · obtain ⟨a1, a2⟩ := ob_at a f d h1
    obtain ⟨b1, b2⟩ := ob_at b g e h2
    rw [← same a a1] at h3
    rw [← same b b1] at h4
    exact J.sep a b f g d e p a2 b2 h3 h4
theorem rst_ns {Γ Γ4 : List Kd} {σ σ2 : L2.St} {vs : List Nat} {p : Addr} (hl : Γ.length = Γ4.length) (hw : L2.wipe σ2 vs = L2.wipe σ vs) (hf : freeAt vs Γ = true) (hn : ∀ (i : Nat) (f : Bool) (d : D), Γ4[i]? = some (.ob f d) → σ2[i]? ≠ some (some (.ref p)))
    (i : Nat) (f : Bool) (d : D) (h : (rst vs 0 Γ Γ4)[i]? = some (.ob f d)) : σ[i]? ≠ some (some (.ref p)) := by
  rcases rst_get vs 0 Γ Γ4 i _ hl h with ⟨h1, h2⟩ | ⟨h1, h2⟩
  · rw [Nat.zero_add] at h1
    have q := List.all_eq_true.mp hf i (List.contains_iff_mem.mp h1)
    rw [h2] at q
    cases q
  · rw [Nat.zero_add] at h1
    have hn' : i ∉ vs := fun m => by
      have := List.contains_iff_mem.mpr m
      rw [h1] at this
      cases this
    rw [← wipe_out (σ := σ) hn', ← hw, wipe_out hn']
    exact hn i f d h2
/-- a loose list is changed -/
theorem EnvOk.poke {Z : Zn} {Γ : List Kd} {σ : L2.St} {H B : Hp} {D0 : Addr} {xs ys : List V} (I : EnvOk Z Γ σ H B) (e : H D0 = some (.lst xs)) (hB : B D0 = none) (hZ : Z.H D0 = none) (hs : ∀ (i : Nat) (f : Bool) (d : D), Γ[i]? = some (.ob f d) → σ[i]? ≠ some (some (.ref D0))) :
    EnvOk Z Γ σ (upd H D0 (.lst ys)) B where
  keepH := fun a o h m n => (upd_ne fun z => by subst z; rw [hZ] at h; cases h).trans (I.keepH a o h m n)
  there := fun a h z => by
    unfold upd at z
    split at z
    · cases z
    · exact I.there a h z
  keepB := I.keepB
  sub := fun a o h => (upd_ne fun z => by subst z; rw [hB] at h; cases h).trans (I.sub a o h)
  nt := I.nt
  apart := I.apart
  tabs := fun t ht => by
    obtain ⟨ps, h1, h2, h3⟩ := I.tabs t ht
    refine ⟨ps, (upd_ne fun z => ?_).trans h1, h2, fun pos cv hc => ?_⟩
    · rw [z, e] at h1; cases h1
    · obtain ⟨c, e1, e2⟩ := h3 pos cv hc
      refine ⟨c, e1, (upd_ne fun z => ?_).trans e2⟩
      rw [z, e] at e2
      unfold LamX.CodeO at e2
      cases e2
  len := I.len
  slots := fun i k h => by
    have w := I.slots i k h
    cases k with
    | any => trivial
    | dat d => exact w
    | raw v => exact w
    | ob f d =>
      obtain ⟨p, w1, w2, w3⟩ := w
      refine ⟨p, w1, w2.mono (Sb.refl B) fun u hu => (upd_ne fun z => ?_).trans hu, w3⟩
      subst z
      obtain ⟨v, g1, _⟩ := I.slot h (fun z => nomatch z)
      rw [g1] at w1
      cases w1
      exact hs i f d h g1
  sep := I.sep
  zM := I.zM
  zB := I.zB
/-- the list that is made stands with the entry's -/
theorem EnvOk.inD {Z : Zn} {Γ : List Kd} {σ : L2.St} {H B : Hp} {D0 : Addr} {o0 : HO} (I : EnvOk Z Γ σ H B) (e : H D0 = some o0) (hB : B D0 = none) (hs : ∀ (i : Nat) (f : Bool) (d : D), Γ[i]? = some (.ob f d) → σ[i]? ≠ some (some (.ref D0))) :
    EnvOk { Z with H := upd Z.H D0 o0 } Γ σ H B where
  keepH := fun a o h m n => by
    by_cases ha : a = D0
    · subst ha
      have h' : upd Z.H a o0 a = some o := h
      rw [upd_same] at h'
      cases h'
      exact e
    · exact I.keepH a o ((upd_ne ha).symm.trans h) m n
  there := fun a h => by
    by_cases ha : a = D0
    · subst ha
      rw [e]
      exact fun z => nomatch z
    · exact I.there a fun z => h ((upd_ne ha).trans z)
  keepB := I.keepB
  sub := I.sub
  nt := I.nt
  apart := fun a h b => by
    by_cases ha : a = D0
    · subst ha; exact hB
    · exact I.apart a (fun z => h ((upd_ne ha).trans z)) b
  tabs := I.tabs
  len := I.len
  slots := fun i k h => by
    have w := I.slots i k h
    cases k with
    | any => trivial
    | dat d => exact w
    | raw v => exact w
    | ob f d =>
      obtain ⟨p, w1, w2, w3, w4⟩ := w
      refine ⟨p, w1, w2, w3, ?_⟩
      cases f with
      | false => exact w4
      | true =>
        rw [if_pos rfl] at w4 ⊢
        refine (upd_ne fun z => ?_).trans w4
        subst z
        obtain ⟨v, g1, _⟩ := I.slot h (fun z => nomatch z)
        rw [g1] at w1
        cases w1
        exact hs i true d h g1
  sep := I.sep
  zM := fun p hp => by
    show upd Z.H D0 o0 p ≠ none
    unfold upd
    split
    · exact fun z => nomatch z
    · exact I.zM p hp
  zB := fun a o h => by
    have h2 := I.keepB a o h
    refine (upd_ne fun z => ?_).trans (I.zB a o h)
    subst z
    rw [hB] at h2
    cases h2
theorem EnvOk.outD {Z : Zn} {Γ : List Kd} {σ : L2.St} {H B : Hp} {D0 : Addr} {o0 : HO} (I : EnvOk { Z with H := upd Z.H D0 o0 } Γ σ H B) (no : NT o0) (hZ : Z.H D0 = none) (zM : ∀ p ∈ Z.M, Z.H p ≠ none) (zB : Sb Z.B Z.H) :
    EnvOk Z Γ σ H B ∧ H D0 = some o0 ∧ B D0 = none ∧ ∀ (i : Nat) (f : Bool) (d : D), Γ[i]? = some (.ob f d) → σ[i]? ≠ some (some (.ref D0)) := by
  have ne : ∀ a, Z.H a ≠ none → a ≠ D0 := fun a h z => by subst z; exact h hZ
  have hM : D0 ∉ Z.M := fun m => zM D0 m hZ
  have hB0 : Z.B D0 = none := by
    cases e : Z.B D0 with
    | none => rfl
    | some o => rw [zB D0 o e] at hZ; cases hZ
  refine ⟨⟨fun a o h m n => I.keepH a o ((upd_ne (ne a (by rw [h]; exact fun z => nomatch z))).trans h) m n, fun a h => I.there a fun z => h ((upd_ne (ne a h)).symm.trans z), I.keepB, I.sub, I.nt, fun a h b => I.apart a (fun z => h ((upd_ne (ne a h)).symm.trans z)) b, I.tabs, I.len, fun i k h => ?_, I.sep, zM, zB⟩,
    I.keepH D0 _ upd_same hM no, I.apart D0 (by show upd Z.H D0 o0 D0 ≠ none; rw [upd_same]; exact fun z => nomatch z) hB0, fun i f d h z => ?_⟩
  · have w := I.slots i k h
    cases k with
    | any => trivial
    | dat d => exact w
    | raw v => exact w
    | ob f d =>
      obtain ⟨p, w1, w2, w3, w4⟩ := w
      refine ⟨p, w1, w2, w3, ?_⟩
      cases f with
      | false => exact w4
      | true =>
        rw [if_pos rfl] at w4 ⊢
        by_cases hp : p = D0
        · rw [hp]; exact hZ
        · exact (upd_ne hp).symm.trans w4
  · obtain ⟨v, g1, p, g2, g3, g4, g5⟩ := I.slot h (fun z => nomatch z)
    rw [z] at g1
    cases g1
    cases g2
    cases f with
    | true =>
      rw [if_pos rfl] at g5
      have g5' : upd Z.H D0 o0 D0 = none := g5
      rw [upd_same] at g5'
      cases g5'
    | false =>
      rw [if_neg (by decide)] at g5
      exact hM g5
theorem wipe_get (σ : L2.St) (j : Nat) : ∀ vs : List Nat, (L2.wipe σ vs)[j]? = if j ∈ vs then (σ[j]?).map (fun _ => none) else σ[j]?
  | [] => by simp [L2.wipe]
  | v :: vs => by
    unfold L2.wipe
    by_cases h : v = j
    · subst h
      rw [if_pos List.mem_cons_self]
      by_cases hl : v < σ.length
      · rw [List.getElem?_set_self (by rw [wipe_length]; exact hl), List.getElem?_eq_getElem hl]
        rfl
      · rw [List.getElem?_eq_none (by rw [List.length_set, wipe_length]; omega), List.getElem?_eq_none (by omega)]
        rfl
    · rw [List.getElem?_set_ne h, wipe_get σ j vs]
      by_cases m : j ∈ vs
      · rw [if_pos m, if_pos (List.mem_cons_of_mem _ m)]
      · rw [if_neg m, if_neg (fun z => (List.mem_cons.mp z).elim (fun e => h e.symm) m)]
theorem wipe_set {σ : L2.St} {i : Nat} {x : Option V} {vs : List Nat} (h : i ∈ vs) : L2.wipe (σ.set i x) vs = L2.wipe σ vs := by
  apply List.ext_getElem?
  intro j
  rw [wipe_get, wipe_get]
  by_cases m : j ∈ vs
  · rw [if_pos m, if_pos m]
    by_cases e : i = j
    · subst e
      by_cases hl : i < σ.length
      · rw [List.getElem?_set_self hl, List.getElem?_eq_getElem hl]; rfl
      · rw [List.getElem?_eq_none (by rw [List.length_set]; omega), List.getElem?_eq_none (by omega)]
    · rw [List.getElem?_set_ne e]
  · rw [if_neg m, if_neg m, List.getElem?_set_ne (fun e => m (by rw [← e]; exact h))]
theorem wipe_wipe (σ : L2.St) (vs : List Nat) : L2.wipe (L2.wipe σ vs) vs = L2.wipe σ vs := by
  apply List.ext_getElem?
  intro j
  rw [wipe_get, wipe_get]
  by_cases m : j ∈ vs
  · rw [if_pos m, if_pos m]
    cases σ[j]? <;> rfl
  · rw [if_neg m, if_neg m]
/-- the target stores into its own slots alone -/
def TgIn (vs : List Nat) (g : TG) : Prop := ∀ v σ H Q, g v σ H Q → g v σ H fun σ' H' => L2.wipe σ' vs = L2.wipe σ vs ∧ Q σ' H'
def TgsIn (vs : List Nat) (g : TGs) : Prop := ∀ v σ H Q, g v σ H Q → g v σ H fun σ' H' => L2.wipe σ' vs = L2.wipe σ vs ∧ Q σ' H'
theorem tgin_name {vs : List Nat} {i : Nat} (h : i ∈ vs) : TgIn vs (gName i) := fun v σ H Q q => ⟨wipe_set h, q⟩
theorem tgsin_nil {vs : List Nat} : TgsIn vs gNil := fun v σ H Q q => ⟨q.1, rfl, q.2⟩
theorem gName_mono {i : Nat} {v : V} {σ : L2.St} {H : Hp} {Q Q' : L2.St → Hp → Prop} (q : gName i v σ H Q) (h : ∀ σ' H', Q σ' H' → Q' σ' H') : gName i v σ H Q' := h _ _ q
/-- a target's reading may be weakened -/
def TgM (g : TG) : Prop := ∀ v σ H Q Q', (∀ σ' H', Q σ' H' → Q' σ' H') → g v σ H Q → g v σ H Q'
def TgsM (g : TGs) : Prop := ∀ v σ H Q Q', (∀ σ' H', Q σ' H' → Q' σ' H') → g v σ H Q → g v σ H Q'
theorem tgm_name {i : Nat} : TgM (gName i) := fun v σ H Q Q' h q => h _ _ q
theorem tgsm_nil : TgsM gNil := fun v σ H Q Q' h q => ⟨q.1, h _ _ q.2⟩
theorem tgsm_cons {g : TG} {gs : TGs} (h1 : TgM g) (h2 : TgsM gs) : TgsM (gCons g gs) := fun v σ H Q Q' h ⟨x, r, e, q⟩ => ⟨x, r, e, h1 _ _ _ _ _ (fun σ' H' q => h2 _ _ _ _ _ h q) q⟩
theorem tgsin_cons {vs : List Nat} {g : TG} {gs : TGs} (m : TgM g) (ms : TgsM gs) (h1 : TgIn vs g) (h2 : TgsIn vs gs) : TgsIn vs (gCons g gs) := fun v σ H Q ⟨x, r, e, q⟩ => by
  refine ⟨x, r, e, m _ _ _ _ _ ?_ (h1 _ _ _ _ q)⟩
  rintro σ' H' ⟨e1, q1⟩
  refine ms _ _ _ _ _ ?_ (h2 _ _ _ _ q1)
  rintro σ2 H2 ⟨e2, q2⟩
  exact ⟨e2.trans e1, q2⟩
theorem tgin_tup {vs : List Nat} {K : PySem.W.Frag} {n : Nat} {gs : TGs} (h : TgsIn vs gs) : TgIn vs (gTup K n gs) := fun v σ H Q ⟨a, xs, e, hq, hn, q⟩ => ⟨a, xs, e, hq, hn, h _ _ _ _ q⟩
theorem tgm_tup {K : PySem.W.Frag} {n : Nat} {gs : TGs} (h : TgsM gs) : TgM (gTup K n gs) := fun v σ H Q Q' i ⟨a, xs, e, hq, hn, q⟩ => ⟨a, xs, e, hq, hn, h _ _ _ _ _ i q⟩
section
variable {Z : Zn} {Γ : List Kd} {k : Rz → List Kd → Prop} {te : TE} {tt : TT} {g : TG}
/-- [elt for target in iter if test]: F tells the list made of the items taken, G the frame behind them -/
theorem ev_lcE {wi : TI} {vs : List Nat} (hg : TgIn vs g) (hgm : TgM g)
    (h : ItD Z wi Γ fun ds Γ1 => ∃ (F : List D → List D) (G : List D → List Kd → Prop), F [] = [] ∧ ds.length ≤ 100000 ∧ G [] Γ1 ∧ (∀ Γ, G ds Γ → k (.n (.lst (F ds))) Γ) ∧
      ∀ pre x post, ds = pre ++ x :: post → ∀ Γ, G pre Γ → freeAt vs Γ = true ∧ ∀ Ha, Tg { Z with H := Ha } g (.d x) (wipeK Γ vs) fun Γ2 => EvT { Z with H := Ha } tt Γ2 fun b Γ3 =>
        (b = true → Ev { Z with H := Ha } te Γ3 fun r Γ4 => ∃ d, r.fz = .d d ∧ F (pre ++ [x]) = F pre ++ [d] ∧ G (pre ++ [x]) (rst vs 0 Γ Γ4)) ∧ (b = false → F (pre ++ [x]) = F pre ∧ G (pre ++ [x]) (rst vs 0 Γ Γ3))) : Ev Z (tLc wi g tt te vs) Γ k := fun σ H B I Q q => by
  refine h σ H B I _ fun J ds Γ1 H1 B1 I1 s1 z ⟨F, G, hF, hl, g0, gd, turn⟩ D0 hD => ?_
  obtain ⟨hB1, hZ⟩ := I1.none_of hD
  -- what holds between two turns
  let P : Nat → Hp → Prop := fun i H => ∃ Γ B xs, EnvOk Z Γ σ H B ∧ Sb B1 B ∧ G (ds.take i) Γ ∧ H D0 = some (.lst xs) ∧ B D0 = none ∧ (∀ (i : Nat) (f : Bool) (d : D), Γ[i]? = some (.ob f d) → σ[i]? ≠ some (some (.ref D0))) ∧ Rs Z.w B xs (F (ds.take i)) ∧ xs.length ≤ i
  have p0 : P 0 (upd H1 D0 (.lst [])) := ⟨Γ1, B1, [], I1.free hD, Sb.refl _, g0, upd_same, hB1, fun i f d e => I1.notSlot hD i f d e, by rw [List.take_zero, hF]; exact .nil, Nat.le_refl _⟩
  refine ⟨fun i m H => m = ds.length - i ∧ i ≤ ds.length ∧ P i H, ⟨_, rfl, Nat.zero_le _, p0⟩, ?_⟩
  rintro i m H ⟨rfl, hi, Γ, B, xs, I, hb, gi, hDl, hDB2, hDs, hR, hx⟩
  by_cases hlt : i < ds.length
  · refine .inr ⟨z.go i H B hb I.sub hlt, P (i + 1), fun H' p => ⟨ds.length - (i + 1), by omega, rfl, hlt, p⟩, fun x H' y => ?_⟩
    obtain ⟨B', d, gr, hd, r⟩ := z.yld Z.T i H B x H' hlt hb I.sub I.nt I.tabs y
    have et : ds.take (i + 1) = ds.take i ++ [d] := by rw [List.take_add_one, hd]; rfl
    have ep : ds = ds.take i ++ d :: ds.drop (i + 1) := by
      have h2 : ds[i] = d := by rw [List.getElem?_eq_getElem hlt] at hd; exact Option.some.inj hd
      rw [← h2]
      simp
    have I' := I.grow gr
    have hD' : H' D0 = some (.lst xs) := gr.keep D0 _ hDl (fun _ z => nomatch z)
    have hDB' : B' D0 = none := gr.apart D0 (by rw [hDl]; exact fun z => nomatch z) hDB2
    obtain ⟨hf, tn⟩ := turn (ds.take i) d _ ep Γ gi
    have I2 := (I'.inD hD' hDB' hDs).wipe vs
    have tgm : ∀ σ2 H2, (L2.wipe σ2 vs = L2.wipe σ vs ∧ ∃ Γ2, EnvOk { Z with H := upd Z.H D0 (.lst xs) } Γ2 σ2 H' B' ∧ H2 = H' ∧ EvT { Z with H := upd Z.H D0 (.lst xs) } tt Γ2 fun b Γ3 =>
        (b = true → Ev { Z with H := upd Z.H D0 (.lst xs) } te Γ3 fun r Γ4 => ∃ d', r.fz = .d d' ∧ F (ds.take i ++ [d]) = F (ds.take i) ++ [d'] ∧ G (ds.take i ++ [d]) (rst vs 0 Γ Γ4)) ∧ (b = false → F (ds.take i ++ [d]) = F (ds.take i) ∧ G (ds.take i ++ [d]) (rst vs 0 Γ Γ3))) →
        tt σ2 H2 fun b H3 => if b = true then te σ2 H3 fun y H4 => ∃ acc, H4 D0 = some (HO.lst acc) ∧ acc.length < sizeLine ∧ P (i + 1) (upd H4 D0 (HO.lst (acc ++ [y]))) else P (i + 1) H3 := by
      rintro σ2 H2 ⟨hw, Γ2, J2, rfl, hT⟩
      refine hT σ2 _ B' J2 _ fun b Γ3 H3 B3 J3 s3 k3 => ?_
      cases b with
      | true =>
        rw [if_pos rfl]
        have k3' := ev_fz (Z := { Z with H := upd Z.H D0 (.lst xs) }) (k := fun r Γ4 => ∃ d', r = .d d' ∧ F (ds.take i ++ [d]) = F (ds.take i) ++ [d'] ∧ G (ds.take i ++ [d]) (rst vs 0 Γ Γ4)) (k3.1 rfl)
        refine k3' σ2 H3 B3 J3 _ fun r Γ4 v H4 B4 J4 s4 x4 ⟨d', e, f1, g1⟩ => ?_
        subst e
        obtain ⟨O1, O2, O3, O4⟩ := J4.outD (fun _ z => nomatch z) hZ I.zM I.zB
        have U := I'.unwipe O1 (s3.trans s4) hw hf
        have hlen : Γ.length = Γ4.length := by
          have l1 : σ2.length = σ.length := by rw [← wipe_length σ2 vs, hw, wipe_length]
          rw [I.len, O1.len, l1]
        have nsl := rst_ns hlen hw hf O4
        have hm : Sb B B4 := (gr.base.trans s3).trans s4
        refine ⟨xs, O2, Nat.lt_of_le_of_lt hx (Nat.lt_of_lt_of_le hlt (Nat.le_trans hl (by decide))), rst vs 0 Γ Γ4, B4, xs ++ [v], U.poke O2 O3 hZ nsl, hb.trans hm, by rw [et]; exact g1, upd_same, O3, nsl, ?_, by rw [List.length_append]; exact Nat.add_le_add_right hx 1⟩
        rw [et, f1]
        exact (hR.mono hm).append (.cons x4 .nil)
      | false =>
        rw [if_neg (by decide)]
        obtain ⟨f1, g1⟩ := k3.2 rfl
        obtain ⟨O1, O2, O3, O4⟩ := J3.outD (fun _ z => nomatch z) hZ I.zM I.zB
        have U := I'.unwipe O1 s3 hw hf
        have hlen : Γ.length = Γ3.length := by
          have l1 : σ2.length = σ.length := by rw [← wipe_length σ2 vs, hw, wipe_length]
          rw [I.len, O1.len, l1]
        have nsl := rst_ns hlen hw hf O4
        have hm : Sb B B3 := gr.base.trans s3
        exact ⟨rst vs 0 Γ Γ3, B3, xs, U, hb.trans hm, by rw [et]; exact g1, O2, O3, nsl, by rw [et, f1]; exact hR.mono hm, Nat.le_succ_of_le hx⟩
    have a := hg x (L2.wipe σ vs) H' _ (tn (upd Z.H D0 (.lst xs)) (L2.wipe σ vs) H' B' x I2 r
      (fun σ2 H2 => ∃ Γ2, EnvOk { Z with H := upd Z.H D0 (.lst xs) } Γ2 σ2 H' B' ∧ H2 = H' ∧ EvT { Z with H := upd Z.H D0 (.lst xs) } tt Γ2 fun b Γ3 =>
        (b = true → Ev { Z with H := upd Z.H D0 (.lst xs) } te Γ3 fun r Γ4 => ∃ d', r.fz = .d d' ∧ F (ds.take i ++ [d]) = F (ds.take i) ++ [d'] ∧ G (ds.take i ++ [d]) (rst vs 0 Γ Γ4)) ∧ (b = false → F (ds.take i ++ [d]) = F (ds.take i) ∧ G (ds.take i ++ [d]) (rst vs 0 Γ Γ3)))
      fun Γ2 σ2 J2 k2 => ⟨Γ2, J2, rfl, k2⟩)
    rw [wipe_wipe] at a
    exact hgm _ _ _ _ _ (fun σ2 H2 ⟨hw, q0⟩ => ⟨hw, tgm σ2 H2 ⟨hw, q0⟩⟩) a
  · have e : i = ds.length := by omega
    subst e
    rw [List.take_length] at gi hR
    exact .inl ⟨z.stop H B hb I.sub, q (.n (.lst (F ds))) Γ _ H B I (s1.trans hb) ⟨D0, rfl, ⟨xs, hDl, hR⟩, hDB2, hZ, hDs⟩ (gd Γ gi)⟩
theorem ev_lc {wi : TI} {vs : List Nat} (F : List D → List D) (G : List D → List Kd → Prop) (hF : F [] = []) (hg : TgIn vs g) (hgm : TgM g)
    (h : ItD Z wi Γ fun ds Γ1 => ds.length ≤ 100000 ∧ G [] Γ1 ∧ (∀ Γ, G ds Γ → k (.n (.lst (F ds))) Γ) ∧
      ∀ pre x post, ds = pre ++ x :: post → ∀ Γ, G pre Γ → freeAt vs Γ = true ∧ ∀ Ha, Tg { Z with H := Ha } g (.d x) (wipeK Γ vs) fun Γ2 => EvT { Z with H := Ha } tt Γ2 fun b Γ3 =>
        (b = true → Ev { Z with H := Ha } te Γ3 fun r Γ4 => ∃ d, r.fz = .d d ∧ F (pre ++ [x]) = F pre ++ [d] ∧ G (pre ++ [x]) (rst vs 0 Γ Γ4)) ∧ (b = false → F (pre ++ [x]) = F pre ∧ G (pre ++ [x]) (rst vs 0 Γ Γ3))) : Ev Z (tLc wi g tt te vs) Γ k :=
  ev_lcE hg hgm fun σ H B I Rr q => h σ H B I Rr fun J ds Γ' H' B' I' s z hh => q J ds Γ' H' B' I' s z ⟨F, G, hF, hh⟩
end
end Gm
namespace Gm
open PySem PySem.Spec PyProof.Rows L2

/-! ### promises: data in, data out -/
def spR (w : World) (T : List NdefX.NTab) (pre : List D → Prop) (post : List D → D → Prop) : Sp := fun vs H Q _ => ∃ B ds, Sb B H ∧ (∀ a o, B a = some o → NT o) ∧ NdefX.TabsN T H ∧ Rs w B vs ds ∧ pre ds ∧
  ∀ v d H' B', Grow T H B H' B' → R w B' v d → post ds d → Q v H'
theorem spR_len {w : World} {T : List NdefX.NTab} {pre : List D → Prop} {post : List D → D → Prop} {n : Nat} (h : ∀ ds, pre ds → ds.length = n) : ∀ vs H Q E, spR w T pre post vs H Q E → vs.length = n := fun vs H Q E x => by
  obtain ⟨B, ds, _, _, _, r, p, _⟩ := x
  rw [r.length]
  exact h ds p
def start0 (n : Nat) (ds : List D) : List Kd := ds.map Kd.dat ++ List.replicate (n - ds.length) Kd.any
theorem env_start {w : World} {T : List NdefX.NTab} {H B : Hp} {N : List Str} {vs : List V} {ds : List D} (h1 : Sb B H) (h2 : ∀ a o, B a = some o → NT o) (h3 : NdefX.TabsN T H) (r : Rs w B vs ds) : EnvOk ⟨w, H, B, [], T⟩ (start0 N.length ds) (L2.start N vs) H B where
  keepH := fun a o e _ _ => e
  there := fun a e => e
  keepB := Sb.refl B
  sub := h1
  nt := h2
  apart := fun a e b => b
  tabs := h3
  len := by
    unfold start0 L2.start
    rw [List.length_append, List.length_append, List.length_map, List.length_map, List.length_replicate, List.length_replicate, r.length]
  slots := fun i k e => by
    unfold start0 at e
    by_cases hi : i < ds.length
    · rw [List.getElem?_append_left (by rw [List.length_map]; exact hi), List.getElem?_map] at e
      have hd : ds[i]? = some ds[i] := by simp [hi]
      rw [hd] at e
      cases e
      obtain ⟨v, hv, rv⟩ := r.get' hd
      unfold L2.start
      rw [List.getElem?_append_left (by rw [List.length_map, r.length]; exact hi), List.getElem?_map, hv]
      exact ⟨v, rfl, rv⟩
    · rw [List.getElem?_append_right (by rw [List.length_map]; omega), List.getElem?_replicate] at e
      split at e
      · cases e; trivial
      · cases e
  sep := fun i j f g d e p h1 _ _ _ => by
    unfold start0 at h1
    by_cases hi : i < ds.length
    · rw [List.getElem?_append_left (by rw [List.length_map]; exact hi), List.getElem?_map] at h1
      have hd : ds[i]? = some ds[i] := by simp [hi]
      rw [hd] at h1
      cases h1
    · rw [List.getElem?_append_right (by rw [List.length_map]; omega), List.getElem?_replicate] at h1
      split at h1 <;> cases h1
  zM := fun p hp => nomatch hp
  zB := h1
theorem EnvOk.toGrow {w : World} {T : List NdefX.NTab} {H0 B0 H B : Hp} {Γ : List Kd} {σ : L2.St} (I : EnvOk ⟨w, H0, B0, [], T⟩ Γ σ H B) : Grow T H0 B0 H B :=
  ⟨fun a o e n => I.keepH a o e (fun z => nomatch z) n, I.there, I.keepB, I.sub, I.nt, I.apart, I.tabs⟩
section
variable {P : Program} {w : World} {K : PySem.W.Frag} {mg : Str → Option Value} {base : Heap} {x qual : Str} {params : Arguments} {body : List Stmt} {scope : Scope} {dvs : List V} {kws : List (Str × V)} {f : Addr} {fd : FuncData}
/-- a def by its body: the body's reading t, and what t does to data -/
theorem fnR {T : List NdefX.NTab} {pre : List D → Prop} {post : List D → D → Prop} {N ps : List Str} {k : Nat} (F : FunD K x qual params body scope dvs kws f fd) (S : FnScope N ps scope) (hpre : ∀ ds, pre ds → ds.length = ps.length)
    (hb : ∀ (cdv : Value) (A : Around) (outer : List Env) (s : Shared) (H : Hp) (E : XK), Room k (A.deeper (envOfC qual scope s.heap.objs.size f cdv)) →
      ∃ t, PSs (cxOf CX0 P w K mg base N qual scope f cdv A outer s H E).nox body t ∧ ∀ (H B : Hp) (ds : List D), pre ds → St ⟨w, H, B, [], T⟩ t (start0 N.length ds) { nx := fun _ => post ds .non, rt := fun r _ => ∃ d, r = .d d ∧ post ds d }) :
    FnOk P w K mg base CX0 (k + 1) f fd ps (spR w T pre post) := by
  refine F.ok S (spR_len hpre) fun cdv A outer s H vs Q E hr h => ?_
  obtain ⟨B, ds, h1, h2, h3, r, hp, q⟩ := h
  obtain ⟨t, ht, hs⟩ := hb cdv A outer s H E hr
  refine ⟨t, ht.nox, hs H B ds hp (L2.start N vs) H B (env_start h1 h2 h3 r) _ ⟨?_, ?_, ?_, ?_⟩⟩
  · intro σ H' B' Γ I _ hq
    exact q .non .non H' B' I.toGrow R.non hq
  · rintro σ H' B' Γ v r I _ hr ⟨d, rfl, hq⟩
    exact q v d H' B' I.toGrow hr hq
  · intro σ H' B' Γ I _ hq
    exact hq.elim
  · intro σ H' B' Γ I _ hq
    exact hq.elim
end

/-! ### calls of defs by their names -/
/-- the def that the module's name x stands for: called with values that lack dvs -/
structure Kn (P : Program) (w : World) (K : PySem.W.Frag) (mg : Str → Option Value) (base : Heap) (x : Str) (k : Nat) (dvs : List V) (sp : Sp) : Prop where
  ex : ∃ (f : Addr) (fd : FuncData) (ps : List Str) (ds : List Value), FnOk P w K mg base CX0 k f fd ps sp ∧ mg x = some (.ref f) ∧ PySem.W.keepIn K (.ref f) = true ∧ Binds K fd ps ds ∧ Vals dvs ds
theorem pe_kn {X : Cx} {x : Str} {k : Nat} {dvs : List V} {sp : Sp} {p pos : Pos} {e : Expr} {es : List Expr} {t : TA} (F : Kn X.prog X.w X.K X.mg X.base x k dvs sp) (hr : Room k X.A) (hg : Gl X x) (ha : PA X (e :: es) t)
    (hdb : (x == ("__debug__" : Str)) = false := by decide) (he : starEach (e :: es) X.env = (false, eval e X.env) :: starEach es X.env := by rfl) (hpl : (backTo pos (starEach es X.env)).any (·.1) = false := by rfl) :
    PE X (.Call (.Name x p) (e :: es) [] pos) (tCall sp dvs E0 t) := by
  obtain ⟨f, fd, ps, ds, F1, hm, hk, hb, hd⟩ := F.ex
  exact pe_call F1 hr hg hm hk hb hd pass0 ha hdb he hpl
section
variable {Z : Zn} {Γ : List Kd} {k : Rz → List Kd → Prop} {te : TE} {ta : TA}
/-- a call: what it asks of the data, what it tells of the answer -/
theorem ev_call {w : World} {T : List NdefX.NTab} {pre : List D → Prop} {post : List D → D → Prop} {dvs : List V} {dds : List D} {E : XK} (hd : ∀ B, Rs w B dvs dds) (hw : Z.w = w) (hT : Z.T = T)
    (h : EvA Z ta Γ fun rs Γ1 => ∃ ds, rs = ds.map Rz.d ∧ pre (ds ++ dds) ∧ ∀ d, post (ds ++ dds) d → k (.d d) Γ1) : Ev Z (tCall (spR w T pre post) dvs E ta) Γ k := fun σ H B I Q q =>
  h σ H B I _ fun rs Γ1 vs H1 B1 I1 s1 x1 ⟨ds, e, hp, kk⟩ => by
    subst e hw hT
    refine ⟨B1, ds ++ dds, I1.sub, I1.nt, I1.tabs, (x1.datas).append (hd B1), hp, fun v d H' B' g r hq => ?_⟩
    exact q (.d d) Γ1 v H' B' (I1.grow g) (s1.trans g.base) r (kk d hq)
theorem rs_nil {w : World} : ∀ B, Rs w B [] [] := fun _ => .nil
end

/-! ### unions of operations -/
abbrev orR (r r' : R2) : R2 := fun x y H Q => r x y H Q ∨ r' x y H Q
section
variable {X : Cx}
/-- ==, of numbers, texts, truths; of data -/
theorem op_EQ (hu : X.A.units + 64 < cLine) : OpR X (compareOp .Eq) (orR rEq (rEqD X.K)) := op_eq.or (op_eqD hu)
theorem op_NE (hu : X.A.units + 64 < cLine) : OpR X (compareOp .NotEq) (orR rNe (rNeD X.K)) := op_ne.or (op_neD hu)
def rAddS2 : R2 := fun x y H Q => ∃ i j, x = .str i ∧ y = .str j ∧ i.length + j.length ≤ sizeLine ∧ Q (.str (i ++ j)) H
theorem op_ADD : OpR X (binaryOp .Add) (orR (rI0 fun i j => .int (i + j)) (orR rAddS2 rCat)) := op_add.or (op_add_str.or op_cat)
theorem op_MUL : OpR X (binaryOp .Mult) (orR (rI CMul fun i j => .int (i * j)) rRep) := op_mul.or op_rep
def rInS1 : R2 := fun x y H Q => ∃ (c : Nat) (z : Str), x = .str ⟨#[c]⟩ ∧ y = .str z ∧ Q (.bl (decide (c ∈ z.cps.toList))) H
end
end Gm
namespace Gm
open PySem PySem.Spec PyProof.Rows L2

/-- a constant of the module -/
def Kc (mg : Str → Option Value) (x : Str) (v : V) : Prop := ∃ u, mg x = some u ∧ RelV v u
theorem pe_kc {X : Cx} {x : Str} {v : V} {pos : Pos} (hg : Gl X x) (h : Kc X.mg x v) (hd : (x == ("__debug__" : Str)) = false := by decide) : PE X (.Name x pos) (tC v) := by
  obtain ⟨u, hm, r⟩ := h
  exact pe_glob hg hm r hd
structure Cn (mg : Str → Option Value) : Prop where
  LETTERS : Kc mg "LETTERS" (.str "abcdefghijklmnopqrstuvwxyz")
  MOST_WORD : Kc mg "MOST_WORD" (.int 400)
  MOST_ROOMS : Kc mg "MOST_ROOMS" (.int 12)
  MOST_STEPS : Kc mg "MOST_STEPS" (.int 200)
  MOST_SETS : Kc mg "MOST_SETS" (.int 4096)
  MOST_PAIRS : Kc mg "MOST_PAIRS" (.int 4000)
/-- the built-in names that the module leaves as they are -/
structure Bl (mg : Str → Option Value) : Prop where
  len : mg "len" = none
  isinstance : mg "isinstance" = none
  enumerate : mg "enumerate" = none
  range : mg "range" = none
  sorted : mg "sorted" = none
  set : mg "set" = none
  tuple : mg "tuple" = none
  list : mg "list" = none
  dict : mg "dict" = none
  str : mg "str" = none
  int : mg "int" = none
  bool : mg "bool" = none
  any : mg "any" = none
  all : mg "all" = none
  max : mg "max" = none
  min : mg "min" = none
  sum : mg "sum" = none

section
variable {Z : Zn} {Γ : List Kd} {k : Rz → List Kd → Prop} {ta tb te : TE} {K : PySem.W.Frag}
/-! ### isinstance, len -/
def tyN : D → String
  | .non => "NoneType" | .bl _ => "bool" | .int _ => "int" | .str _ => "str" | .lst _ => "list" | .tup _ => "tuple" | .dI _ => "dict" | .dN _ => "dict"
theorem tyX_of {w : World} {B H : Hp} {v : V} {d : D} (hs : Sb B H) (x : Vw w B H v d) (hn : ∀ kvs, d ≠ .dN kvs) : TyX K H v (.type (tyN d)) := by
  cases d with
  | non => rw [x.non]; exact .base .non
  | bl b => rw [x.bl]; exact .base (.bl b)
  | int b => rw [x.int]; exact .base (.int b)
  | str b => rw [x.str]; exact .base (.str b)
  | lst ds => obtain ⟨p, xs, rfl, h, _⟩ := x.lst hs; exact .base (.lst h)
  | tup ds => obtain ⟨p, xs, rfl, h, _⟩ := x.tup hs; exact .base (.tup h)
  | dI kvs => obtain ⟨p, rfl, xs, ks, ds, h, _⟩ := x.ob hs rfl; exact .base (.dK h)
  | dN kvs => exact absurd rfl (hn kvs)
theorem cb_isi {r1 : Rz} {d : D} {T : String} {b : Bool} (e1 : vw Γ r1 = some d) (hn : ∀ kvs, d ≠ .dN kvs) (hb : kitB (tyN d) T = some b) (hk : k (.d (.bl b)) Γ) : Cb Z (rIsi K) [r1, .x (.ty T)] Γ k := fun σ H B vs I x Q q => by
  obtain ⟨v1, v2, rfl, y1, y2⟩ := x.two
  have e2 : v2 = .ty T := y2 Γ H
  subst e2
  exact ⟨v1, .ty T, _, _, b, rfl, ClsV.ty T, tyX_of I.sub (vw_ok I (y1 Γ H) e1) hn, kit_ty hb, q (.d (.bl b)) Γ _ H B I (Sb.refl B) (.bl b) hk⟩
def lenD : D → Option Nat
  | .str s => some s.length | .lst ds => some ds.length | .tup ds => some ds.length | _ => none
theorem cb_len {r1 : Rz} {d : D} {n : Nat} (e1 : vw Γ r1 = some d) (hn : lenD d = some n) (hl : n ≤ 100000) (hk : k (.d (.int n)) Γ) : Cb Z (fun xs H Q => ∃ x n, xs = [x] ∧ LenV K x H n ∧ Q (.int n) H) [r1] Γ k :=
  cb_val (d := .int n) e1 (fun B H v hs x Q q => by
    cases d with
    | str s =>
      rw [x.str]
      cases hn
      exact ⟨_, s.length, rfl, ⟨Nat.le_trans hl (by decide), rfl⟩, q _ (.int _)⟩
    | lst ds =>
      obtain ⟨p, xs, rfl, h, r⟩ := x.lst hs
      cases hn
      exact ⟨_, _, rfl, .inl ⟨xs, SqL.of h, r.length.symm⟩, q _ (.int _)⟩
    | tup ds =>
      obtain ⟨p, xs, rfl, h, r⟩ := x.tup hs
      cases hn
      exact ⟨_, _, rfl, .inr ⟨xs, SqT.of h, r.length.symm⟩, q _ (.int _)⟩
    | _ => cases hn) hk
/-! ### comparisons -/
theorem op_eqI {r1 r2 : Rz} {r' : R2} {i j : Int} (e1 : vw Γ r1 = some (.int i)) (e2 : vw Γ r2 = some (.int j)) (hk : k (.d (.bl (decide (i = j)))) Γ) : Op2 Z (orR rEq r') r1 r2 Γ k :=
  .inl (op2_val e1 e2 (fun B H v1 v2 _ x1 x2 Q q => by
    rw [x1.int, x2.int]
    refine ⟨rfl, q _ ?_⟩
    have e : decide (V.int i = V.int j) = decide (i = j) := by simp
    rw [e]
    exact .bl _) hk)
theorem op_neI {r1 r2 : Rz} {r' : R2} {i j : Int} (e1 : vw Γ r1 = some (.int i)) (e2 : vw Γ r2 = some (.int j)) (hk : k (.d (.bl (!decide (i = j)))) Γ) : Op2 Z (orR rNe r') r1 r2 Γ k :=
  .inl (op2_val e1 e2 (fun B H v1 v2 _ x1 x2 Q q => by
    rw [x1.int, x2.int]
    refine ⟨rfl, q _ ?_⟩
    have e : decide (V.int i = V.int j) = decide (i = j) := by simp
    rw [e]
    exact .bl _) hk)
theorem op_eqS {r1 r2 : Rz} {r' : R2} {i j : Str} (e1 : vw Γ r1 = some (.str i)) (e2 : vw Γ r2 = some (.str j)) (hk : k (.d (.bl (decide (i = j)))) Γ) : Op2 Z (orR rEq r') r1 r2 Γ k :=
  .inl (op2_val e1 e2 (fun B H v1 v2 _ x1 x2 Q q => by
    rw [x1.str, x2.str]
    refine ⟨rfl, q _ ?_⟩
    have e : decide (V.str i = V.str j) = decide (i = j) := by simp
    rw [e]
    exact .bl _) hk)
theorem op_neB {r1 r2 : Rz} {r' : R2} {i j : Bool} (e1 : vw Γ r1 = some (.bl i)) (e2 : vw Γ r2 = some (.bl j)) (hk : k (.d (.bl (!decide (i = j)))) Γ) : Op2 Z (orR rNe r') r1 r2 Γ k :=
  .inl (op2_val e1 e2 (fun B H v1 v2 _ x1 x2 Q q => by
    rw [x1.bl, x2.bl]
    refine ⟨rfl, q _ ?_⟩
    have e : decide (V.bl i = V.bl j) = decide (i = j) := by simp
    rw [e]
    exact .bl _) hk)
def dnon : D → Bool
  | .non => true
  | _ => false
theorem dnon_ok {w : World} {B H : Hp} {v : V} {d : D} (x : Vw w B H v d) : decide (v = .non) = dnon d := by
  rcases x with x | ⟨p, rfl, y⟩
  · cases x <;> rfl
  · cases d <;> first | exact False.elim y | rfl
theorem op_is {r1 r2 : Rz} {d : D} (e1 : vw Γ r1 = some d) (e2 : vw Γ r2 = some .non) (hk : k (.d (.bl (dnon d))) Γ) : Op2 Z (fun x y H Q => y = .non ∧ Q (.bl (decide (x = .non))) H) r1 r2 Γ k :=
  op2_val e1 e2 (fun B H v1 v2 _ x1 x2 Q q => by
    rw [x2.non, dnon_ok x1]
    exact ⟨rfl, q _ (.bl _)⟩) hk
theorem op_isnot {r1 r2 : Rz} {d : D} (e1 : vw Γ r1 = some d) (e2 : vw Γ r2 = some .non) (hk : k (.d (.bl (!dnon d))) Γ) : Op2 Z (fun x y H Q => y = .non ∧ Q (.bl (!decide (x = .non))) H) r1 r2 Γ k :=
  op2_val e1 e2 (fun B H v1 v2 _ x1 x2 Q q => by
    rw [x2.non, dnon_ok x1]
    exact ⟨rfl, q _ (.bl _)⟩) hk
/-- a sign in a text -/
theorem op_inSign {r1 r2 : Rz} {c : Nat} {z : Str} (e1 : vw Γ r1 = some (.str ⟨#[c]⟩)) (e2 : vw Γ r2 = some (.str z)) (hk : k (.d (.bl (decide (c ∈ z.cps.toList)))) Γ) :
    Op2 Z (fun x y H Q => ∃ (c : Nat) (z : Str), x = .str ⟨#[c]⟩ ∧ y = .str z ∧ Q (.bl (decide (c ∈ z.cps.toList))) H) r1 r2 Γ k :=
  op2_val e1 e2 (fun B H v1 v2 _ x1 x2 Q q => ⟨c, z, x1.str, x2.str, q _ (.bl _)⟩) hk
/-- a number among numbers -/
theorem all_flat_int (ns : List Int) : (ns.map V.int).all flatV = true := by
  rw [List.all_eq_true]
  intro v hv
  obtain ⟨n, _, rfl⟩ := List.mem_map.mp hv
  rfl
theorem inV_int (i : Int) : ∀ ns : List Int, inV (.int i) (ns.map V.int) = decide (i ∈ ns)
  | [] => rfl
  | n :: ns => by
    have h := inV_int i ns
    unfold inV at h ⊢
    rw [List.map_cons, List.any_cons, h]
    show ((n == i) || decide (i ∈ ns)) = _
    by_cases e : n = i
    · subst e; simp
    · have e' : ¬ i = n := fun z => e z.symm
      simp [e, e']
theorem op_inI {neg : Bool} {r1 r2 : Rz} {i : Int} {ns : List Int} {d2 : D} (hd : d2 = .lst (ns.map D.int) ∨ d2 = .tup (ns.map D.int)) (e1 : vw Γ r1 = some (.int i)) (e2 : vw Γ r2 = some d2) (hk : k (.d (.bl (if neg = true then !decide (i ∈ ns) else decide (i ∈ ns)))) Γ) : Op2 Z (rIn K neg) r1 r2 Γ k :=
  op2_val e1 e2 (fun B H v1 v2 hs x1 x2 Q q => by
    rw [x1.int]
    have fin : ∀ b : Bool, Q (.bl (if neg = true then !decide (i ∈ ns) else decide (i ∈ ns))) H := fun _ => q _ (.bl _)
    rcases hd with rfl | rfl
    · obtain ⟨p, xs, rfl, h, r⟩ := x2.lst hs
      have e := r.ints
      subst e
      exact ⟨p, _, rfl, .inl (SqL.of h), rfl, all_flat_int ns, by rw [inV_int]; exact fin true⟩
    · obtain ⟨p, xs, rfl, h, r⟩ := x2.tup hs
      have e := r.ints
      subst e
      exact ⟨p, _, rfl, .inr (SqT.of h), rfl, all_flat_int ns, by rw [inV_int]; exact fin true⟩) hk
/-! ### subscripts -/
def itD : D → Int → Option D
  | .lst ds, i => atI ds i
  | .tup ds, i => atI ds i
  | .str s, i => (atI s.cps.toList i).map fun c => .str ⟨#[c]⟩
  | _, _ => none
theorem atI_rs {w : World} {B : Hp} {xs : List V} {ds : List D} (r : Rs w B xs ds) {i : Int} {d : D} (h : atI ds i = some d) : ∃ v, atI xs i = some v ∧ R w B v d := by
  unfold atI at h ⊢
  rw [r.length]
  cases e : ixN ds.length i with
  | none => rw [e] at h; cases h
  | some j =>
    rw [e] at h
    obtain ⟨v, h1, h2⟩ := r.get' (show ds[j]? = some d from h)
    exact ⟨v, h1, h2⟩
theorem op_ix {r1 r2 : Rz} {d1 d : D} {i : Int} (e1 : vw Γ r1 = some d1) (e2 : vw Γ r2 = some (.int i)) (h : itD d1 i = some d) (hl : ∀ s, d1 = .str s → s.length ≤ 100000) (hk : k (.d d) Γ) : Op2 Z (rIx K) r1 r2 Γ k :=
  op2_val e1 e2 (fun B H v1 v2 hs x1 x2 Q q => by
    rw [x2.int]
    cases d1 with
    | lst ds =>
      obtain ⟨p, xs, rfl, hp, r⟩ := x1.lst hs
      obtain ⟨v, h1, h2⟩ := atI_rs r (show atI ds i = some d from h)
      exact .inl ⟨p, xs, i, v, rfl, rfl, SqL.of hp, h1, q _ h2⟩
    | tup ds =>
      obtain ⟨p, xs, rfl, hp, r⟩ := x1.tup hs
      obtain ⟨v, h1, h2⟩ := atI_rs r (show atI ds i = some d from h)
      exact .inr (.inl ⟨p, xs, i, v, rfl, rfl, SqT.of hp, h1, q _ h2⟩)
    | str s =>
      rw [x1.str]
      have h' : (atI s.cps.toList i).map (fun c => D.str ⟨#[c]⟩) = some d := h
      obtain ⟨c, h1, h2⟩ := Option.map_eq_some_iff.mp h'
      subst h2
      exact .inr (.inr ⟨s, i, c, rfl, rfl, Nat.le_trans (hl s rfl) (by decide), h1, q _ (.str _)⟩)
    | _ => cases h) hk
/-! ### arithmetic -/
theorem op_addI {r1 r2 : Rz} {r' : R2} {i j : Int} (e1 : vw Γ r1 = some (.int i)) (e2 : vw Γ r2 = some (.int j)) (hk : k (.d (.int (i + j))) Γ) : Op2 Z (orR (rI0 fun i j => .int (i + j)) r') r1 r2 Γ k := .inl (op_I0 e1 e2 (fun B => .int _) hk)
theorem op_subI {r1 r2 : Rz} {i j : Int} (e1 : vw Γ r1 = some (.int i)) (e2 : vw Γ r2 = some (.int j)) (hk : k (.d (.int (i - j))) Γ) : Op2 Z (rI0 fun i j => .int (i - j)) r1 r2 Γ k := op_I0 e1 e2 (fun B => .int _) hk
theorem op_cmpI {p : Int → Int → Prop} [∀ i j, Decidable (p i j)] {r1 r2 : Rz} {i j : Int} (e1 : vw Γ r1 = some (.int i)) (e2 : vw Γ r2 = some (.int j)) (hk : k (.d (.bl (decide (p i j)))) Γ) : Op2 Z (rI0 fun i j => .bl (decide (p i j))) r1 r2 Γ k := op_I0 e1 e2 (fun B => .bl _) hk
theorem ev_un {r : V → Hp → VK → Prop} (h : Ev Z ta Γ fun r1 Γ1 => ∃ i j : Int, r1 = .d (.int i) ∧ (∀ H (Q : VK), Q (.int j) H → r (.int i) H Q) ∧ k (.d (.int j)) Γ1) : Ev Z (tUn r ta) Γ k := fun σ H B I Q q => h σ H B I _ fun r1 Γ1 v H1 B1 I1 s x ⟨i, j, e, hr, kk⟩ => by
  subst e
  cases x
  exact hr _ _ (q (.d (.int j)) Γ1 _ H1 B1 I1 s (.int j) kk)
theorem ev_neg (h : Ev Z ta Γ fun r1 Γ1 => ∃ i : Int, r1 = .d (.int i) ∧ k (.d (.int (-i))) Γ1) : Ev Z (tUn (rU fun i => .int (-i)) ta) Γ k :=
  ev_un (h.imp fun r Γ1 ⟨i, e, kk⟩ => ⟨i, -i, e, fun H Q q => ⟨i, rfl, q⟩, kk⟩)
theorem cb_intB {r1 : Rz} {b : Bool} (e1 : vw Γ r1 = some (.bl b)) (hk : k (.d (.int (if b = true then 1 else 0))) Γ) : Cb Z (fun xs H Q => (∃ i, xs = [.int i] ∧ Q (.int i) H) ∨ ∃ k, xs = [.bl k] ∧ Q (.int (if k then 1 else 0)) H) [r1] Γ k :=
  cb_val (d := .int (if b = true then 1 else 0)) e1 (fun B H v _ x Q q => by
    rw [x.bl]
    exact .inr ⟨b, rfl, q _ (.int _)⟩) hk
/-! ### texts -/
def mkS (l : List Nat) : Str := ⟨l.toArray⟩
theorem ev_m1 {r : V → List V → Hp → VK → Prop} {to : TE} (h : Ev Z to Γ fun r0 Γ1 => ∃ s, r0 = .d (.str s) ∧ Ev Z te Γ1 fun r1 Γ2 => Mt Z r (.d (.str s)) [r1.fz] Γ2 k) : Ev Z (tM1 r to te) Γ k := fun σ H B I Q q =>
  h σ H B I _ fun r0 Γ1 v H1 B1 I1 s1 x1 ⟨s, e, k1⟩ => by
    subst e
    cases x1
    have k1' : Ev Z te Γ1 fun r1 Γ2 => r1.st = true ∧ Mt Z r (.d (.str s)) [r1] Γ2 k := ev_fz (k1.imp fun r Γ h => ⟨fz_st r, h⟩)
    exact ⟨⟨s, rfl⟩, k1' σ H1 B1 I1 _ fun r1 Γ2 v2 H2 B2 I2 s2 x2 ⟨t, k2⟩ => k2 σ H2 B2 _ _ I2 (.str s) (.cons t (fun Γ H => by cases r1 <;> first | exact x2 | cases t) .nil) Q fun r Γ' v H' B' I' s x kk => q r Γ' v H' B' I' ((s1.trans s2).trans s) x kk⟩
theorem joinL_nil : ∀ l : List (List Nat), TL.joinL [] l = l.flatten
  | [] => rfl
  | [p] => by simp [TL.joinL]
  | p :: q :: r => by
    have h := joinL_nil (q :: r)
    show p ++ ([] ++ TL.joinL [] (q :: r)) = _
    rw [h]
    simp
theorem join_empty (ys : List Str) : Txt.join Str.empty ys = mkS (ys.map fun y => y.cps.toList).flatten := by
  have h : (Txt.join Str.empty ys).cps.toList = (ys.map fun y => y.cps.toList).flatten := by
    have e := TL.tl_join Str.empty ys
    rw [show TL.tl Str.empty = [] from rfl, joinL_nil, ← TL.join_eq] at e
    exact e
  unfold mkS
  rw [← h]
theorem mt_joinD {s : Str} {ys : List Str} (hl : (ys.map (·.length)).sum + ys.length * s.length ≤ 100000) (hk : k (.d (.str (Txt.join s ys))) Γ) : Mt Z (fun x xs H Q => ∃ a p, ∃ ys : List Str, x = .str a ∧ xs = [.ref p] ∧ (SqL K H p (ys.map V.str) ∨ SqT K H p (ys.map V.str)) ∧
      (ys.map (·.length)).sum + ys.length * a.length ≤ 16777216 ∧ Q (.str (Txt.join a ys)) H) (.d (.str s)) [.d (.lst (ys.map D.str))] Γ k := fun σ H B v vs I x0 x1 Q q => by
  cases x0
  obtain ⟨v1, rfl, y⟩ := x1.one
  obtain ⟨p, rfl, xs, h, r⟩ := R.ob (y Γ H) rfl
  have e := r.strs
  subst e
  exact ⟨s, p, ys, rfl, rfl, .inl (SqL.of (I.sub _ _ h)), by omega, q (.d (.str _)) Γ _ H B I (Sb.refl B) (.str _) hk⟩
/-! ### appending to a list of one's own -/
theorem mt_app {i : Nat} {f : Bool} {ds : List D} {d : D} (hg : Γ[i]? = some (.ob f (.lst ds))) (hl : ds.length < 100000) (hk : k (.d .non) (Γ.set i (.ob f (.lst (ds ++ [d]))))) : Mt Z rAppend (.o i) [.d d] Γ k := fun σ H B v vs I x0 x1 Q q => by
  obtain ⟨v1, rfl, y⟩ := x1.one
  have x0' : σ[i]? = some (some v) := x0
  obtain ⟨v', h1, p, h2, ⟨xs, h3, h4⟩, h5⟩ := I.slot hg (fun z => nomatch z)
  rw [x0'] at h1
  cases h1
  cases h2
  refine ⟨p, xs, v1, rfl, rfl, h3, by rw [h4.length]; exact Nat.lt_of_lt_of_le hl (by decide), ?_⟩
  exact q (.d .non) _ _ _ B (I.write (d' := .lst (ds ++ [d])) hg x0' ⟨_, upd_same, h4.append (.cons (y Γ H) .nil)⟩) (Sb.refl B) R.non hk
end
end Gm
set_option maxHeartbeats 4000000
/-! Sets of numbers and texts whose tables can be walked: set(list), sorted(set). -/
namespace Gm
open PySem PySem.Spec PyProof.Rows L2

def kO : Value → Option Key
  | .int i _ => some (.inl i)
  | .str x _ => some (.inr x)
  | _ => none
theorem kO_is {k : Key} {v : Value} : keyIs k v = true ↔ kO v = some k := by
  constructor
  · intro h
    rcases keyIs_shape h with ⟨i, t, rfl, rfl⟩ | ⟨x, t, rfl, rfl⟩ <;> rfl
  · intro h
    cases v <;> simp [kO] at h
    · subst h; exact keyIs_int _ _
    · subst h; exact keyIs_str _ _
theorem kO_scan {k : Key} {v : Value} (h : kO v = some k) : v.scannable = true := by
  cases v <;> simp [kO] at h <;> rfl
/-- the payload of a set that holds just ks, in some order -/
structure Pay (w : World) (P : Program) (es : Array (Int × Value)) (t : SetTable) (ks : List Key) : Prop where
  el : ElemsOf (mixKind P w) es.toList
  pm : (es.toList.map fun e => kO e.2).Perm (ks.map some)
  nd : ks.Nodup
  bd : es.size < scanBound
  ft : t.fits es.size = true
  rs : Ris t.place.toList
  ld : w.params.followText "set-order" = true ∨ t.led = true
theorem Pay.size {w : World} {P : Program} {es : Array (Int × Value)} {t : SetTable} {ks : List Key} (x : Pay w P es t ks) : es.size = ks.length := by
  have q := x.pm.length_eq
  rwa [List.length_map, List.length_map, Array.length_toList] at q
theorem Pay.has {w : World} {P : Program} {es : Array (Int × Value)} {t : SetTable} {ks : List Key} (x : Pay w P es t ks) (k : Key) : k ∈ ks ↔ ∃ e ∈ es.toList, (mixKind P w).is k e.2 = true := by
  have q : k ∈ ks ↔ some k ∈ ks.map some := by simp
  rw [q, ← x.pm.mem_iff, List.mem_map]
  constructor
  · rintro ⟨e, he, z⟩; exact ⟨e, he, kO_is.mpr z⟩
  · rintro ⟨e, he, z⟩; exact ⟨e, he, kO_is.mp z⟩
/-- at a stands such a set -/
def SetM (P : Program) (w : World) (h : Heap) (a : Addr) (ks : List Key) : Prop := ∃ o es ep t, h.get? a = some o ∧ o.ExactSet ∧ o.data = .set es ep t ∧ Pay w P es t ks
theorem SetM.at {P : Program} {w : World} {h h' : Heap} {a : Addr} {ks : List Key} (x : SetM P w h a ks) (k : ∀ o, h.get? a = some o → h'.get? a = some o) : SetM P w h' a ks := by
  obtain ⟨o, es, ep, t, e, r⟩ := x
  exact ⟨o, es, ep, t, k o e, r⟩
section
variable {P : Program} {w : World} {A : Around} {E : Value → Shared → Prop} {s : Shared} {a : Addr}
theorem addTailM {gv : Bool → Sem Unit} (hgv : ∀ (b : Bool) (s' : Shared) (Q' : Unit → Shared → Prop), Q' () s' → wpAny (model P w) A (gv b) Q' E s') {o : Obj} {es es1 : Array (Int × Value)} {ep : Nat} {t t2 : SetTable} {ks1 : List Key}
    (ho : s.heap.get? a = some o) (hx : o.ExactSet) (hd : o.data = .set es ep t) (y : Pay w P es1 t2 ks1) {dm : Bool} {R : Option Bool → Shared → Prop} (hR : ∀ h', Heap.SameBut a s.heap h' → SetM P w h' a ks1 → R (some true) { s with heap := h' }) :
    wpAny (model P w) A (do
        storeSet a es1 t2
        if (!dm && t2.tooFull) = true then do
            gv (relayAll t2 es1 (SetTable.grown es1.size)).2.2
            storeSet a (relayAll t2 es1 (SetTable.grown es1.size)).1 (relayAll t2 es1 (SetTable.grown es1.size)).2.1
            pure (some true)
          else pure (some true)) R E s := by
  refine wpAny_bind (wpAny_storeSet_of ho hd ?_ (fits_of_scanBound y.bd))
  have g1 := store_at (es' := es1) (t' := t2) ho hd
  have s1 := Heap.SameBut.update s.heap a (Obj.putSet es1 t2)
  split
  · have k1 := relayAll_perm t2 es1 (SetTable.grown es1.size)
    have k2 := relayAll_fits t2 es1 (SetTable.grown es1.size)
    have k3 := relayAll_ris t2 es1 (SetTable.grown es1.size)
    have k4 := relayAll_led t2 es1 (SetTable.grown es1.size)
    generalize relayAll t2 es1 (SetTable.grown es1.size) = W at k1 k2 k3 k4 ⊢
    obtain ⟨es2, t3, gave⟩ := W
    dsimp only at k1 k2 k3 k4 ⊢
    have z : es2.size = es1.size := by rw [← Array.length_toList, k1.length_eq, Array.length_toList]
    have y2 : Pay w P es2 t3 ks1 := ⟨y.el.perm k1, (k1.map _).trans y.pm, y.nd, by rw [z]; exact y.bd, k2, k3, y.ld.imp id fun q => by rw [k4]; exact q⟩
    refine wpAny_bind (hgv _ _ _ (wpAny_bind (wpAny_storeSet_of g1 rfl ?_ (fits_of_scanBound y2.bd))))
    exact wpAny_pure (hR _ (s1.trans (Heap.SameBut.update _ a _)) ⟨_, es2, _, t3, store_at (es' := es2) (t' := t3) g1 rfl, hx, rfl, y2⟩)
  · exact wpAny_pure (hR _ s1 ⟨_, es1, _, t2, g1, hx, rfl, y⟩)
/-- a key is added -/
theorem addM {k : Key} {v : Value} {ks : List Key} {Q : Bool → Shared → Prop} (hk : kO v = some k) (x : SetM P w s.heap a ks) (room : ks.length + 1 < scanBound)
    (h1 : k ∈ ks → Q false s) (h2 : k ∉ ks → ∀ h', Heap.SameBut a s.heap h' → SetM P w h' a (k :: ks) → Q true { s with heap := h' }) :
    wpAny (model P w) A (setAddHashed a v ((mixKind P w).hash k)) Q E s := by
  obtain ⟨o, es, ep, t, ho, hx, hd, y⟩ := x
  have hkey : (mixKind P w).is k v = true := kO_is.mpr hk
  have hsc := kO_scan hk
  unfold setAddHashed setAddHashedIn
  refine wpAny_holding (wpAny_bind (wpAny_setState_of ho hd y.ft ?_))
  dsimp only
  rw [byScan_of hsc y.bd y.el]
  simp only [↓reduceIte]
  unfold setAddByScan
  refine wpAny_bind (wpAny_bind (wpAny_rule (wpAny_bind (wpAny_setScan_of hkey ho hd y.ft y.el ?_))))
  cases hf : List.findIdx? (fun e => (mixKind P w).is k e.2) es.toList with
  | some j =>
    dsimp only
    obtain ⟨j1, j2, _⟩ := List.findIdx?_eq_some_iff_getElem.mp hf
    exact wpAny_pure (wpAny_pure (h1 ((y.has k).mpr ⟨_, List.getElem_mem j1, j2⟩)))
  | none =>
    dsimp only
    have hn : k ∉ ks := fun z => by
      obtain ⟨e, e1, e2⟩ := (y.has k).mp z
      have c := List.findIdx?_eq_none_iff.mp hf e e1
      rw [e2] at c
      cases c
    have free : ∀ (b : Bool) {s' : Shared} {Q' : Unit → Shared → Prop}, Q' () s' → wpAny (model P w) A (match b with | true => rule "set.scan.the-table-gave-way" | false => pure ()) Q' E s' := fun b _ _ q => by
      cases b
      · exact wpAny_pure q
      · exact wpAny_rule q
    have k1 := layNew_perm t es ((mixKind P w).hash k) v
    have k2 := layNew_fits t es ((mixKind P w).hash k) v
    have k3 := layNew_ris t es ((mixKind P w).hash k) v y.rs
    have k4 := layNew_led t es ((mixKind P w).hash k) v
    generalize layNew t es ((mixKind P w).hash k) v = W at k1 k2 k3 k4 ⊢
    obtain ⟨es1, t1, dm, gave⟩ := W
    dsimp only at k1 k2 k3 k4 ⊢
    rw [Array.toList_push] at k1
    have z : es1.size = ks.length + 1 := by rw [← Array.length_toList, k1.length_eq, List.length_append, Array.length_toList, y.size]; rfl
    have pay : ∀ t' : SetTable, t'.fits es1.size = true → Ris t'.place.toList → t'.led = t1.led → Pay w P es1 t' (k :: ks) := fun t' a1 a2 a3 =>
      ⟨(y.el.push hkey hsc).perm k1, by
        refine (k1.map _).trans ?_
        rw [List.map_append]
        refine (List.perm_append_comm).trans ?_
        show List.Perm (kO v :: es.toList.map fun e => kO e.2) (some k :: ks.map some)
        rw [hk]
        exact y.pm.cons _, List.nodup_cons.mpr ⟨hn, y.nd⟩, by rw [z]; exact room, a1, a2, y.ld.imp id fun q => by rw [a3, k4]; exact q⟩
    refine wpAny_bind (free _ ?_)
    split
    · refine wpAny_bind ?_
      rw [hashByValue_scannable 8 hsc]
      refine wpAny_pure (addTailM (fun b s' Q' q => free b q) ho hx hd (pay _ ?_ ?_ ?_) fun h' sb r => ?_)
      · first | exact k2 | (split <;> first | exact k2 | exact SetTable.fits_plain_off k2)
      · first | exact k3 | (split <;> exact k3)
      · first | rfl | (split <;> rfl)
      · exact wpAny_pure (h2 hn h' sb r)
    · refine wpAny_bind (wpAny_pure ?_)
      simp only [↓reduceIte]
      exact addTailM (fun b s' Q' q => free b q) ho hx hd (pay _ k2 k3 rfl) fun h' sb r => wpAny_pure (h2 hn h' sb r)
/-- the keys of a list, each once (the last one met first) -/
def onceK : List Key → List Key → List Key
  | acc, [] => acc
  | acc, k :: r => if (acc.any fun j => decide (j = k)) = true then onceK acc r else onceK (k :: acc) r
theorem any_mem {acc : List Key} {k : Key} : (acc.any fun j => decide (j = k)) = true ↔ k ∈ acc := by
  rw [List.any_eq_true]
  constructor
  · rintro ⟨j, h1, h2⟩; rw [← of_decide_eq_true h2]; exact h1
  · intro h; exact ⟨k, h, decide_eq_true rfl⟩
theorem onceK_mem (j : Key) : ∀ (l acc : List Key), j ∈ onceK acc l ↔ j ∈ acc ∨ j ∈ l
  | [], acc => by simp [onceK]
  | k :: r, acc => by
    unfold onceK
    split
    · rename_i h
      have h := any_mem.mp h
      rw [onceK_mem j r acc, List.mem_cons]
      constructor
      · rintro (q | q)
        · exact .inl q
        · exact .inr (.inr q)
      · rintro (q | q | q)
        · exact .inl q
        · subst q; exact .inl h
        · exact .inr q
    · rw [onceK_mem j r (k :: acc), List.mem_cons, List.mem_cons]
      constructor
      · rintro ((q | q) | q)
        · exact .inr (.inl q)
        · exact .inl q
        · exact .inr (.inr q)
      · rintro (q | q | q)
        · exact .inl (.inr q)
        · exact .inl (.inl q)
        · exact .inr q
theorem onceK_len : ∀ (l acc : List Key), (onceK acc l).length ≤ acc.length + l.length
  | [], acc => by simp [onceK]
  | k :: r, acc => by
    unfold onceK
    split
    · have := onceK_len r acc; simp; omega
    · have := onceK_len r (k :: acc); simp at this ⊢; omega
/-- set.update's loop over what is walked -/
theorem loopM {I : Addr} {fp wr : List Addr} {G : Array GenState → Array GenState → Prop} {Pv : Nat → Value → Prop} {St : Nat → Shared → Prop} {R : Result → Shared → Prop} {all : List Key}
    (W : WalksS P w A.in1 I fp wr G all.length Pv St) (S : Addr) (hS : S ∉ fp) (hb : all.length + 1 < scanBound) (hv : ∀ i v, Pv i v → ∃ k, all[i]? = some k ∧ kO v = some k) :
    ∀ (rest : List Key) (i : Nat) (s : Shared) (acc : List Key), all.drop i = rest → St i s → SetM P w s.heap S acc → acc.length ≤ i → i ≤ all.length →
      (∀ s', Moved (S :: wr) G s s' → SetM P w s'.heap S (onceK acc rest) → R (.ok (.ret .none)) s') → codeAny (model P w) A (.builtin "set.update.loop" ⟨[.ref S, .ref I], []⟩) R s := by
  have sw : S ∉ wr := fun h => hS (W.sub _ h)
  have wm : ∀ b ∈ wr, b ∈ S :: wr := fun b hb => List.mem_cons_of_mem _ hb
  intro rest
  induction rest with
  | nil =>
    intro i s acc hr hst hm ha hi hR
    have ei : i = all.length := by
      have := congrArg List.length hr
      rw [List.length_drop] at this
      simp at this
      omega
    subst ei
    refine codeAny_builtin F.entry_set_update_loop ?_
    rw [Around.under_plainId F.plain_set_update_loop _]
    show wpAny _ A.in1 (pyNext (.ref I) >>= _) _ _ s
    refine wpAny_bind (W.done s _ _ hst fun s' mv => ?_)
    show wpAny _ A.in1 (ret Value.none) _ _ s'
    exact wpAny_pure (hR s' (mv.mono wm) (hm.at fun o e => mv.heap S o sw e))
  | cons k rest ih =>
    intro i s acc hr hst hm ha hi hR
    have hlt : i < all.length := by
      apply Classical.byContradiction
      intro h
      rw [List.drop_eq_nil_of_le (by omega)] at hr
      cases hr
    have hk : all[i]? = some k := by
      have e := congrArg (fun l => l[0]?) hr
      simpa using e
    have hr' : all.drop (i + 1) = rest := by
      have e := congrArg List.tail hr
      simpa using e
    refine codeAny_builtin F.entry_set_update_loop ?_
    rw [Around.under_plainId F.plain_set_update_loop _]
    show wpAny _ A.in1 (pyNext (.ref I) >>= _) _ _ s
    refine wpAny_bind (W.item i s _ _ hlt hst fun v s' hP hst' mv => ?_)
    obtain ⟨k', e1, e2⟩ := hv i v hP
    rw [hk] at e1
    cases e1
    have hm' : SetM P w s'.heap S acc := hm.at fun o e => mv.heap S o sw e
    show wpAny _ A.in1 (holding [v] (setAdd S v) >>= _) _ _ s'
    refine wpAny_bind (wpAny_holding ?_)
    unfold setAdd
    refine wpAny_holding (wpAny_bind ((mixKind P w).pyHash (k := k) (kO_is.mpr e2) ?_))
    refine addM (s := { s' with toks := s'.toks + 1 }) e2 hm' (by omega) (fun hin => ?_) (fun hout h' sb r => ?_)
    · refine wpAny_pure ⟨plainId_quiet F.plain_set_update_loop _, ih (i + 1) _ acc hr' (W.frame _ s' s'.heap _ hst' (Nat.le_succ _) fun b _ o e => e) hm' (by omega) hlt fun s'' mv2 r2 => ?_⟩
      refine hR s'' (Moved.trans W.gtrans ((mv.mono wm).then_heap (Nat.le_succ _) fun b o _ e => e) mv2) ?_
      unfold onceK
      rw [if_pos (any_mem.mpr hin)]
      exact r2
    · refine wpAny_pure ⟨plainId_quiet F.plain_set_update_loop _, ih (i + 1) _ (k :: acc) hr' (W.frame _ s' h' _ hst' (Nat.le_succ _) fun b hb2 o e => ?_) r (by simp; omega) hlt fun s'' mv2 r2 => ?_⟩
      · exact (sb.2 b (fun z => hS (by rw [← z]; exact hb2))).trans e
      · refine hR s'' (Moved.trans W.gtrans ((mv.mono wm).then_heap (Nat.le_succ _) fun b o hb2 e => ?_) mv2) ?_
        · exact (sb.2 b (fun z => hb2 (by rw [z]; exact List.mem_cons_self))).trans e
        · unfold onceK
          rw [if_neg (fun z => hout (any_mem.mp z))]
          exact r2
theorem freshM {h : Heap} {S : Addr} (ho : h.get? S = some { cls := .type "set", dict := none, data := .set #[] 0 (.fresh 0 0 (!w.params.followText "set-order")) }) : SetM P w h S [] :=
  ⟨_, #[], 0, _, ho, ⟨rfl, rfl, rfl⟩, rfl, ⟨fun e he => by simp at he, by simp, List.nodup_nil, by decide, rfl, List.Pairwise.nil, by
    cases e : w.params.followText "set-order"
    · exact .inr rfl
    · exact .inl rfl⟩⟩
set_option maxHeartbeats 8000000 in
/-- set(l), l a list of numbers and texts -/
theorem callSetM {l : Addr} {its : List Value} {all : List Key} {Q : Value → Shared → Prop} (hh : A.handled = none) (hl : s.heap.IsList l its.toArray) (hk : its.map kO = all.map some) (hb : all.length + 1 < scanBound)
    (h : ∀ (h' : Heap) (tk : Nat), SetM P w h' s.heap.objs.size (onceK [] all) → (∀ b o, s.heap.get? b = some o → h'.get? b = some o) → Q (.ref s.heap.objs.size) { s with heap := h', toks := tk }) :
    wpAny (model P w) A (call (.type "set") [.ref l]) Q E s := by
  have hlen : its.length = all.length := by
    have q := congrArg List.length hk
    rwa [List.length_map, List.length_map] at q
  obtain ⟨c, tl, hmro⟩ := F.called_set.mro
  have p1 := F.called_set.made
  have p2 := F.called_set.sub
  refine wpAny_call (codeAny_of_tree ?_)
  show wpAny _ _ (callAny (.type "set") _) _ _ _
  refine wpAny_pure ⟨Code.quiet_builtin _ (by decide +kernel), codeAny_builtin F.entry_type_call ?_⟩
  rw [Around.under_plain (weight_type_call_type "set" [.ref l] []) rfl]
  have p3 := F.called_set.notType
  have p4 := F.called_set.canCreate
  have p5 := F.typeCall_set_1 (.ref l)
  repeat (any_goals (first | assumption | wp_step))
  generalize hF : ({ cls := .type "set", dict := none, data := .set #[] 0 (.fresh 0 0 (!w.params.followText "set-order")) } : Obj) = F0
  refine codeAny_mono (code_set_led1 (.ref l) (E := E) (Q₁ := fun ob t1 => ob = .ref s.heap.objs.size ∧ t1 = { s with heap := s.heap.push F0 }) ⟨rfl, by rw [← hF]⟩) fun r t1 hr => ?_
  cases r with
  | error e => exact hr
  | ok fl =>
    cases fl with
    | ret ob =>
      obtain ⟨rfl, rfl⟩ := hr
      have gS : (s.heap.push F0).get? s.heap.objs.size = some F0 := by rw [← hF]; exact Heap.get?_push_size _ rfl
      have tS : Shared.TypeIs { s with heap := s.heap.push F0 } (.ref s.heap.objs.size) "set" := ⟨_, gS, by rw [← hF]⟩
      have p6 := F.called_set.init.lookup
      have p7 := F.called_set.init.bind (.ref s.heap.objs.size)
      repeat (any_goals (first | assumption | wp_step))
      refine codeAny_mono (codeAny_call_builtin (R := wants (fun r t2 => r = .none ∧ ∃ h' tk, t2 = { s with heap := h', toks := tk } ∧ SetM P w h' s.heap.objs.size (onceK [] all) ∧
          ∀ b o, s.heap.get? b = some o → h'.get? b = some o) E) F.called_set.init.plain F.entry_set_init (check_set_init_1 tS ?_)) fun r2 t2 hr2 => ?_
      · obtain ⟨ol, gl, cl, nl, dl⟩ := hl
        obtain ⟨ocls, odict, odata, oslots⟩ := ol
        simp only at cl dl
        subst cl
        subst dl
        have gl' : (s.heap.push F0).get? l = some { cls := .type "list", dict := odict, data := .seq its.toArray nl, slots := oslots } := Heap.get?_push_of_some _ gl
        have p8 := F.sub_list_set
        have p9 := F.sub_list_frozenset
        have p0 : (Value.type "list" == Value.type "dict") = false := by decide
        have il : (s.heap.push F0).IsList l its.toArray := ⟨_, gl', rfl, nl, rfl⟩
        subst hF
        unfold Builtin.«set.__init__» noKeywords Builtin.Frozenset.updateFrom
        generalize hPI : pyIter = PI
        wp_walk
        subst hPI
        generalize hF : ({ cls := .type "set", dict := none, data := .set #[] 0 (.fresh 0 0 (!w.params.followText "set-order")) } : Obj) = F0 at gS tS gl' il ⊢
        refine wpAny_pyIter_list il ?_
        refine wpAny_bind (wpAny_runValue ?_)
        have ls : l < s.heap.objs.size := Heap.lt_size gl
        have hh' : A.in1.in1.in1.handled = none := by simp [hh]
        have nI : l ≠ (s.heap.push F0).objs.size := by rw [Heap.size_push]; exact Nat.ne_of_lt (Nat.lt_succ_of_lt ls)
        have nS : s.heap.objs.size ∉ [(s.heap.push F0).objs.size, l] := fun z => by
          rcases List.mem_cons.mp z with z | z
          · rw [Heap.size_push] at z
            exact absurd z (Nat.ne_of_lt (Nat.lt_succ_self _))
          · rw [List.mem_singleton] at z; exact Nat.ne_of_gt ls z
        have W := (Walks.list (prog := P) (w := w) hh' (s.heap.push F0).objs.size l nI its.toArray).toS
        have ez : its.toArray.size = all.length := by simpa using hlen
        rw [ez] at W
        refine loopM W s.heap.objs.size nS hb (fun i v hv => ?_) all 0 _ [] (by simp) ⟨⟨_, Heap.get?_push_size _ rfl, rfl, rfl⟩, il.push _⟩ (freshM (by rw [hF]; exact Heap.get?_push_of_some _ gS)) (Nat.le_refl _) (Nat.zero_le _) fun t3 mv r3 => ?_
        · have e := congrArg (fun l => l[i]?) hk
          simp only [List.getElem?_map] at e
          have hv' : its[i]? = some v := by simpa using hv
          rw [hv'] at e
          cases ea : all[i]? with
          | none => rw [ea] at e; cases e
          | some k => rw [ea] at e; exact ⟨k, rfl, Option.some.inj e⟩
        · obtain ⟨h', g2, d2, tk, o2⟩ := t3
          obtain rfl : g2 = s.gens := mv.gens
          obtain rfl : d2 = s.drawn := mv.drawn
          obtain rfl : o2 = s.os := mv.os
          show wpAny _ _ _ _ _ _
          refine wpAny_pure ?_
          show wpAny _ _ (ret Value.none) _ _ _
          refine wpAny_pure ⟨rfl, h', tk, rfl, r3, fun b o e => ?_⟩
          have b0 : b < s.heap.objs.size := Heap.lt_size e
          refine mv.heap b o (fun z => ?_) (Heap.get?_push_of_some _ (Heap.get?_push_of_some _ e))
          rcases List.mem_cons.mp z with z | z
          · exact absurd z (Nat.ne_of_lt b0)
          · rw [List.mem_singleton, Heap.size_push] at z
            exact absurd z (Nat.ne_of_lt (Nat.lt_succ_of_lt b0))
      · cases r2 with
        | error e => exact hr2
        | ok f2 =>
          cases f2 with
          | ret r =>
            obtain ⟨rfl, h', tk, rfl, q1, q2⟩ := hr2
            repeat (any_goals (first | assumption | wp_step))
            exact h _ _ q1 q2
          | _ => exact hr2.elim
    | _ => exact hr.elim
end
end Gm
set_option maxHeartbeats 4000000
namespace Gm
open PySem PySem.Spec PyProof.Rows L2
theorem perm_of_map {α β : Type} {f : α → β} (g : β → α) (h : ∀ x, g (f x) = x) {l m : List α} (p : (l.map f).Perm (m.map f)) : l.Perm m := by
  have q := p.map g
  rw [List.map_map, List.map_map] at q
  have e : g ∘ f = id := funext h
  rwa [e, List.map_id, List.map_id] at q
/-- the numbers, the texts of values -/
def vI (v : Value) : Int := match v with | .int i _ => i | _ => 0
def vS (v : Value) : Str := match v with | .str x _ => x | _ => Str.empty
theorem intsAre_vI : ∀ {vs : List Value}, (∀ v ∈ vs, ∃ i t, v = Value.int i t) → IntsAre vs (vs.map vI)
  | [], _ => .nil
  | v :: vs, h => by
    obtain ⟨i, t, rfl⟩ := h v List.mem_cons_self
    exact .cons i t (intsAre_vI fun u hu => h u (List.mem_cons_of_mem _ hu))
theorem strsAre_vS : ∀ {vs : List Value}, (∀ v ∈ vs, ∃ i t, v = Value.str i t) → StrsAre vs (vs.map vS)
  | [], _ => .nil
  | v :: vs, h => by
    obtain ⟨i, t, rfl⟩ := h v List.mem_cons_self
    exact .cons i t (strsAre_vS fun u hu => h u (List.mem_cons_of_mem _ hu))
section
variable {P : Program} {w : World} {A : Around} {E : Value → Shared → Prop} {s : Shared} {a : Addr}
/-- the members as a list of values, ahead of the sort -/
theorem gatherM {ks : List Key} {Q : Value → Shared → Prop} (x : SetM P w s.heap a ks) (hh : A.handled = none) (h64 : ks.length < 64)
    (h : ∀ (vs : List Value) (s1 : Shared), (vs.map kO).Perm (ks.map some) → (∀ b o, s.heap.get? b = some o → s1.heap.get? b = some o) → s1.gens = s.gens → s1.os = s.os → s.heap.objs.size ≤ s1.heap.objs.size → vs.length < 64 →
      ∀ (hb : ∀ (out : Array Value) b u, s.heap.get? b = some u → (sortedHeap (s1.heap.push (seqObj "list" vs.toArray 0)) s1.heap.objs.size vs out).get? b = some u),
      wpAny (model P w) A.in1 (call (.builtin "list.sort") [.ref s1.heap.objs.size]) (fun _ s2 => Q (.ref s1.heap.objs.size) s2) E { s1 with heap := s1.heap.push (seqObj "list" vs.toArray 0) }) : wpAny (model P w) A (call (.builtin "sorted") [.ref a]) Q E s := by
  obtain ⟨o, es, ep, t, ho, hx, hd, y⟩ := x
  refine Calls.call_function_entry kind_sorted plain_sorted entry_sorted (args_sorted1 _) ?_
  unfold Builtin.«sorted»
  refine wpAny_bind (m := checkCount "sorted" 1 1 _) (wpAny_pure (wpAny_bind (collect_set (A := A.in1) hh ⟨o, ho, hx.1, hd⟩ y.ft y.bd y.rs y.ld fun s1 vs k1 z1 g1 o1 pm => ?_)))
  have pv : (vs.map kO).Perm (ks.map some) := by
    have q := pm.map kO
    rw [List.map_map] at q
    exact q.trans y.pm
  have hl : vs.length = ks.length := by
    have q := pv.length_eq
    rwa [List.length_map, List.length_map] at q
  refine wpAny_bind (wpAny_newList ?_ (by rw [hl, sizeLine_eq]; omega))
  refine wpAny_bind (wpAny_holding (wpAny_mono (h vs s1 pv k1 g1 o1 z1 (by omega) fun out b u e => ?_) (fun _ s2 q => wpAny_pure ⟨_, rfl, q⟩) fun _ _ e => e))
  have q := k1 b u e
  have lt := Heap.lt_size q
  rw [sortedHeap_old (Nat.ne_of_lt lt) (by rw [size_push']; exact Nat.lt_succ_of_lt lt)]
  exact Heap.get?_push_of_some _ q
theorem sortedMI {ns : List Int} {Q : Value → Shared → Prop} (x : SetM P w s.heap a (ns.map Sum.inl)) (hh : A.handled = none) (h64 : ns.length < 64)
    (h : ∀ s' p (out : Array Value) (c : Nat) (ns' : List Int), (∀ b o, s.heap.get? b = some o → s'.heap.get? b = some o) → s'.gens = s.gens → s'.os = s.os → s.heap.objs.size ≤ p →
      s'.heap.get? p = some (seqObj "list" out c) → IntsAre out.toList ns' → ns'.Perm ns → ns'.Pairwise (· ≤ ·) → Q (.ref p) s') : wpAny (model P w) A (call (.builtin "sorted") [.ref a]) Q E s := by
  refine gatherM x hh (by rw [List.length_map]; exact h64) fun vs s1 pv k1 g1 o1 z1 hl back => ?_
  have all : ∀ v ∈ vs, ∃ i t, v = Value.int i t := fun v hv => by
    have m := pv.mem_iff.mp (List.mem_map_of_mem (f := kO) hv)
    rw [List.map_map] at m
    obtain ⟨n, _, e⟩ := List.mem_map.mp m
    have e' : kO v = some (.inl n) := e.symm
    cases v <;> simp [kO] at e'
    exact ⟨_, _, rfl⟩
  have pn : (vs.map vI).Perm ns := by
    refine perm_of_map (f := fun i => some (Sum.inl i : Key)) (fun o => match o with | some (.inl i) => i | _ => 0) (fun _ => rfl) ?_
    have e : (vs.map vI).map (fun i => some (Sum.inl i : Key)) = vs.map kO := by
      rw [List.map_map]
      refine List.map_congr_left fun v hv => ?_
      obtain ⟨i, t, rfl⟩ := all v hv
      rfl
    rw [e]
    rw [List.map_map] at pv
    exact pv
  have gL : (s1.heap.push (seqObj "list" vs.toArray 0)).get? s1.heap.objs.size = some (seqObj "list" vs.toArray 0) := Heap.get?_push_size _ rfl
  refine wpAny_call_entry slot_list_sort ⟨_, gL, rfl⟩ entry_list_sort (list_sort_tree gL (intsAre_vI all) hl fun out ns' a1 a2 a3 => ⟨_, rfl, ?_⟩) (args_list_sort _)
  obtain ⟨c, hc⟩ := sortedHeap_at (vs := vs) (out := out) gL
  exact h _ s1.heap.objs.size out c ns' (back out) g1 o1 z1 hc a1 (a2.trans pn) a3
theorem sortedMS {ns : List Str} {Q : Value → Shared → Prop} (x : SetM P w s.heap a (ns.map Sum.inr)) (hh : A.handled = none) (h64 : ns.length < 64)
    (h : ∀ s' p (out : Array Value) (c : Nat) (ns' : List Str), (∀ b o, s.heap.get? b = some o → s'.heap.get? b = some o) → s'.gens = s.gens → s'.os = s.os → s.heap.objs.size ≤ p →
      s'.heap.get? p = some (seqObj "list" out c) → StrsAre out.toList ns' → ns'.Perm ns → sortedS ns' = true → Q (.ref p) s') : wpAny (model P w) A (call (.builtin "sorted") [.ref a]) Q E s := by
  refine gatherM x hh (by rw [List.length_map]; exact h64) fun vs s1 pv k1 g1 o1 z1 hl back => ?_
  have all : ∀ v ∈ vs, ∃ i t, v = Value.str i t := fun v hv => by
    have m := pv.mem_iff.mp (List.mem_map_of_mem (f := kO) hv)
    rw [List.map_map] at m
    obtain ⟨n, _, e⟩ := List.mem_map.mp m
    have e' : kO v = some (.inr n) := e.symm
    cases v <;> simp [kO] at e'
    exact ⟨_, _, rfl⟩
  have pn : (vs.map vS).Perm ns := by
    refine perm_of_map (f := fun i => some (Sum.inr i : Key)) (fun o => match o with | some (.inr i) => i | _ => Str.empty) (fun _ => rfl) ?_
    have e : (vs.map vS).map (fun i => some (Sum.inr i : Key)) = vs.map kO := by
      rw [List.map_map]
      refine List.map_congr_left fun v hv => ?_
      obtain ⟨i, t, rfl⟩ := all v hv
      rfl
    rw [e]
    rw [List.map_map] at pv
    exact pv
  have gL : (s1.heap.push (seqObj "list" vs.toArray 0)).get? s1.heap.objs.size = some (seqObj "list" vs.toArray 0) := Heap.get?_push_size _ rfl
  have hT := strsAre_vS all
  refine wpAny_call_entry slot_list_sort ⟨_, gL, rfl⟩ entry_list_sort (list_sort_treeK strKind_oneLt gL hT.keysOf (fun v1 v2 rest e => keyKind_strs (by rw [← e]; exact hT)) hl fun st' hp hs => ⟨_, rfl, ?_⟩) (args_list_sort _)
  obtain ⟨ns', a1, a2, a3⟩ := sorted_out_str hT hp hs
  obtain ⟨c, hc⟩ := sortedHeap_at (vs := vs) (out := (arrOf st').map (·.2)) gL
  exact h _ s1.heap.objs.size _ c ns' (back _) g1 o1 z1 hc a1 (a2.trans pn) a3
end
end Gm
set_option maxHeartbeats 4000000
namespace Gm
open PySem PySem.Spec PyProof.Rows L2
/-- a text of one sign -/
def s1 (c : Nat) : Str := ⟨#[c]⟩
theorem s1_inj {c d : Nat} (h : s1 c = s1 d) : c = d := by
  have e := congrArg (fun s : Str => s.cps.toList) h
  simpa [s1] using e
theorem rising_s1 : ∀ (cs : List Nat) (c : Nat), risingS (s1 c) (cs.map s1) = true → (c :: cs).Pairwise (· ≤ ·)
  | [], c, _ => List.pairwise_singleton _ _
  | d :: cs, c, h => by
    have h' : (!ltCps (s1 d).cps.toList (s1 c).cps.toList && risingS (s1 d) (cs.map s1)) = true := h
    rw [Bool.and_eq_true] at h'
    have r := rising_s1 cs d h'.2
    have hc : c ≤ d := by
      have q := h'.1
      have e : ltCps (s1 d).cps.toList (s1 c).cps.toList = (decide (d < c)) := by
        show ltCps [d] [c] = _
        by_cases z : d < c
        · simp [ltCps, z]
        · by_cases z2 : d = c <;> simp [ltCps, z, z2]
      rw [e] at q
      have : ¬ d < c := by simpa using q
      omega
    refine List.pairwise_cons.mpr ⟨fun x hx => ?_, r⟩
    rcases List.mem_cons.mp hx with rfl | hx
    · exact hc
    · exact Nat.le_trans hc (List.rel_of_pairwise_cons r hx)
theorem lt_of_le_nodupN : ∀ l : List Nat, l.Pairwise (· ≤ ·) → l.Nodup → l.Pairwise (· < ·)
  | [], _, _ => List.Pairwise.nil
  | x :: l, h, d => by
    obtain ⟨h1, h2⟩ := List.pairwise_cons.mp h
    obtain ⟨d1, d2⟩ := List.nodup_cons.mp d
    refine List.pairwise_cons.mpr ⟨fun y hy => ?_, lt_of_le_nodupN l h2 d2⟩
    have : x ≠ y := fun e => d1 (by rw [e]; exact hy)
    have := h1 y hy
    omega
/-- sorted(set(l)), l of numbers or of texts of one sign: a new list, rising -/
def tSortedSet (K : PySem.W.Frag) (ta : TE) : TE := fun σ H Q => ta σ H fun x H1 => ∃ l, x = .ref l ∧
  ((∃ ns : List Int, SqL K H1 l (ns.map V.int) ∧ ns.length ≤ 4000 ∧ (∀ ms : List Int, ms.Nodup → (∀ m ∈ ms, m ∈ ns) → ms.length < 64) ∧ ∀ p (ns' : List Int), H1 p = none → ns'.Pairwise (· < ·) → (∀ n, n ∈ ns' ↔ n ∈ ns) → Q (.ref p) (upd H1 p (.lst (ns'.map V.int)))) ∨
   (∃ cs : List Nat, SqL K H1 l (cs.map fun c => V.str (s1 c)) ∧ cs.length ≤ 4000 ∧ (∀ ms : List Nat, ms.Nodup → (∀ m ∈ ms, m ∈ cs) → ms.length < 64) ∧ ∀ p (cs' : List Nat), H1 p = none → cs'.Pairwise (· < ·) → (∀ n, n ∈ cs' ↔ n ∈ cs) → Q (.ref p) (upd H1 p (.lst (cs'.map fun c => V.str (s1 c))))))
section
variable {X : Cx}
theorem kO_ints : ∀ {us : List Value} {ns : List Int}, IntsAre us ns → us.map kO = (ns.map (Sum.inl : Int → Key)).map some
  | _, _, .nil => rfl
  | _, _, .cons n t h => by simp only [List.map_cons]; rw [kO_ints h]; rfl
theorem kO_strs : ∀ {us : List Value} {ns : List Str}, StrsAre us ns → us.map kO = (ns.map (Sum.inr : Str → Key)).map some
  | _, _, .nil => rfl
  | _, _, .cons n t h => by simp only [List.map_cons]; rw [kO_strs h]; rfl
theorem onceK_nodup : ∀ (l acc : List Key), acc.Nodup → (onceK acc l).Nodup
  | [], acc, h => h
  | k :: r, acc, h => by
    unfold onceK
    split
    · exact onceK_nodup r acc h
    · rename_i n
      exact onceK_nodup r _ (List.nodup_cons.mpr ⟨fun m => n (any_mem.mpr m), h⟩)
theorem onceK_inl (ns : List Int) : ∃ ms : List Int, onceK [] (ns.map Sum.inl) = ms.map Sum.inl ∧ ms.Nodup ∧ ∀ m, m ∈ ms ↔ m ∈ ns := by
  have hm : ∀ j, j ∈ onceK [] (ns.map (Sum.inl : Int → Key)) ↔ j ∈ ns.map (Sum.inl : Int → Key) := fun j => by rw [onceK_mem]; simp
  have hn := onceK_nodup (ns.map (Sum.inl : Int → Key)) [] List.nodup_nil
  generalize hL : onceK [] (ns.map (Sum.inl : Int → Key)) = L at hm hn
  have e : L = (L.map fun k => match k with | .inl i => i | .inr _ => (0 : Int)).map Sum.inl := by
    rw [List.map_map]
    conv => lhs; rw [← List.map_id L]
    refine List.map_congr_left fun k hk => ?_
    obtain ⟨n, _, rfl⟩ := List.mem_map.mp ((hm k).mp hk)
    rfl
  refine ⟨_, e, ?_, fun m => ?_⟩
  · rw [e] at hn
    exact List.Pairwise.of_map _ (fun a b h e => h (by rw [e])) hn
  · have q := hm (.inl m)
    rw [e] at q
    constructor
    · intro h
      have := q.mp (List.mem_map_of_mem h)
      obtain ⟨n, h1, h2⟩ := List.mem_map.mp this
      cases h2
      exact h1
    · intro h
      have := q.mpr (List.mem_map_of_mem h)
      obtain ⟨n, h1, h2⟩ := List.mem_map.mp this
      cases h2
      exact h1
theorem onceK_inr (ns : List Nat) : ∃ ms : List Nat, onceK [] (ns.map fun c => (Sum.inr (s1 c) : Key)) = ms.map (fun c => Sum.inr (s1 c)) ∧ ms.Nodup ∧ ∀ m, m ∈ ms ↔ m ∈ ns := by
  have hm : ∀ j, j ∈ onceK [] (ns.map fun c => (Sum.inr (s1 c) : Key)) ↔ j ∈ ns.map fun c => (Sum.inr (s1 c) : Key) := fun j => by rw [onceK_mem]; simp
  have hn := onceK_nodup (ns.map fun c => (Sum.inr (s1 c) : Key)) [] List.nodup_nil
  generalize hL : onceK [] (ns.map fun c => (Sum.inr (s1 c) : Key)) = L at hm hn
  have e : L = (L.map fun k => match k with | .inl _ => 0 | .inr s => s.cps.toList.headD 0).map (fun c => Sum.inr (s1 c)) := by
    rw [List.map_map]
    conv => lhs; rw [← List.map_id L]
    refine List.map_congr_left fun k hk => ?_
    obtain ⟨n, _, rfl⟩ := List.mem_map.mp ((hm k).mp hk)
    rfl
  refine ⟨_, e, ?_, fun m => ?_⟩
  · rw [e] at hn
    exact List.Pairwise.of_map _ (fun a b h e => h (by rw [e])) hn
  · have q := hm (.inr (s1 m))
    rw [e] at q
    constructor
    · intro h
      have := q.mp (List.mem_map_of_mem (f := fun c => (Sum.inr (s1 c) : Key)) h)
      obtain ⟨n, h1, h2⟩ := List.mem_map.mp this
      have := s1_inj (Sum.inr.inj h2)
      subst this
      exact h1
    · intro h
      have := q.mpr (List.mem_map_of_mem (f := fun c => (Sum.inr (s1 c) : Key)) h)
      obtain ⟨n, h1, h2⟩ := List.mem_map.mp this
      have := s1_inj (Sum.inr.inj h2)
      subst this
      exact h1
theorem pe_sortedSet {a : Expr} {ta : TE} {p p2 q pos : Pos} (hg : Gl X "sorted") (hm : X.mg "sorted" = none) (hg2 : Gl X "set") (hm2 : X.mg "set" = none) (hc : X.calm = true) (ha : PE X a ta)
    (na : starEach [a] X.env = (false, eval a X.env) :: starEach [] X.env := by rfl) : PE X (.Call (.Name "sorted" p) [.Call (.Name "set" p2) [a] [] q] [] pos) (tSortedSet X.K ta) := by
  refine ⟨fun pins s σ H Q I h => ?_⟩
  refine Call_ (ld_blt I hg hm boot_sorted ?_)
  refine PyProof.Rows.callWith_builtin1 (PyProof.Rows.args_cons ?_ rfl) rfl rfl
  refine Call_ (ld_blt I hg2 hm2 boot_set ?_)
  refine PyProof.Rows.callWith_type1 (PyProof.Rows.args_cons (thn (ha.run pins s σ H _ I h) fun v t1 ⟨x, H1, I1, r1, q1⟩ => PyProof.Rows.args_nil ?_) na) na rfl
  obtain ⟨l, rfl, q1⟩ := q1
  cases r1
  -- after the sort
  have fin : ∀ (I2 : ∀ (h' : Heap) (tk : Nat), (∀ b o, t1.heap.get? b = some o → h'.get? b = some o) → Inv X pins σ H1 { t1 with heap := h', toks := tk }) (h' : Heap) (tk : Nat) (k1 : ∀ b o, t1.heap.get? b = some o → h'.get? b = some o)
      (s' : Shared) (p : Addr) (out : Array Value) (c : Nat) (xs : List V), (∀ b o, h'.get? b = some o → s'.heap.get? b = some o) → s'.gens = t1.gens → s'.os = t1.os → h'.objs.size ≤ p →
      s'.heap.get? p = some (seqObj "list" out c) → Vals xs out.toList → xs.length ≤ sizeLine → (H1 p = none → Q (.ref p) (upd H1 p (.lst xs))) → EP X pins σ Q (.ref p) s' := by
    intro I2 h' tk k1 s' p out c xs k g o hp hg hv hl hq
    have J2 := I2 h' tk k1
    have hn : H1 p = none := J2.hok.fresh hp
    have J : Inv X pins σ (upd H1 p (.lst xs)) { ({ t1 with heap := h', toks := tk } : Shared) with heap := s'.heap, gens := s'.gens, drawn := s'.drawn, toks := s'.toks } :=
      J2.call (ch := []) (Un.laid k hp hn) (J2.hok.laid k hp ⟨hl, out.toList, c, hv, hg⟩) (by rw [g]; exact J2.bare) (fun _ z => nomatch z)
    have e : s' = { ({ t1 with heap := h', toks := tk } : Shared) with heap := s'.heap, gens := s'.gens, drawn := s'.drawn, toks := s'.toks } := by
      cases s'
      cases t1
      cases o
      rfl
    rw [e]
    exact ⟨.ref p, _, J, rfl, hq hn⟩
  have I2 : ∀ (h' : Heap) (tk : Nat), (∀ b o, t1.heap.get? b = some o → h'.get? b = some o) → Inv X pins σ H1 { t1 with heap := h', toks := tk } := fun h' tk k => I1.kept k
  rcases q1 with ⟨ns, hq, hl, h64, q1⟩ | ⟨cs, hq, hl, h64, q1⟩
  · obtain ⟨its, r, pl, hz⟩ := I1.list hq
    have ri := r.ints
    refine callSetM (all := ns.map Sum.inl) (I1.ok.hd hc) pl.isList (kO_ints ri) (by rw [List.length_map]; unfold scanBound; omega) fun h' tk hS hk => ?_
    refine PyProof.Rows.args_nil ?_
    obtain ⟨ms, e, hn, hmem⟩ := onceK_inl ns
    rw [e] at hS
    have h64' : ms.length < 64 := h64 ms hn fun m hm => (hmem m).mp hm
    refine sortedMI (s := { t1 with heap := h', toks := tk }) hS (I1.ok.hd hc) h64' fun s' p out c ns' k g o hp hg hi hpm hs => ?_
    have hn' : ns'.Nodup := hpm.nodup_iff.mpr hn
    exact fin I2 h' tk hk s' p out c (ns'.map V.int) k g o (hp) hg (vals_of_ints hi) (by rw [List.length_map, hpm.length_eq, sizeLine_eq]; omega) fun hp' => q1 p ns' hp' (L2.lt_of_le_nodup ns' hs hn') fun n => (hpm.mem_iff).trans (hmem n)
  · obtain ⟨its, r, pl, hz⟩ := I1.list hq
    have r' : Vals ((cs.map s1).map V.str) its := by rw [List.map_map]; exact r
    have ri := strsAre_of r'
    refine callSetM (all := cs.map fun c => Sum.inr (s1 c)) (I1.ok.hd hc) pl.isList ((kO_strs ri).trans (by rw [List.map_map, List.map_map, List.map_map]; rfl)) (by rw [List.length_map]; unfold scanBound; omega) fun h' tk hS hk => ?_
    refine PyProof.Rows.args_nil ?_
    obtain ⟨ms, e, hn, hmem⟩ := onceK_inr cs
    rw [e] at hS
    have h64' : ms.length < 64 := h64 ms hn fun m hm => (hmem m).mp hm
    have hS' : SetM X.prog X.w h' t1.heap.objs.size ((ms.map s1).map Sum.inr) := by rw [List.map_map]; exact hS
    refine sortedMS (s := { t1 with heap := h', toks := tk }) hS' (I1.ok.hd hc) (by rw [List.length_map]; exact h64') fun s' p out c ns' k g o hp hg hi hpm hs => ?_
    have en : ns' = (ns'.map fun s => s.cps.toList.headD 0).map s1 := by
      rw [List.map_map]
      conv => lhs; rw [← List.map_id ns']
      refine List.map_congr_left fun k hk => ?_
      obtain ⟨n, _, rfl⟩ := List.mem_map.mp (hpm.mem_iff.mp hk)
      rfl
    generalize (ns'.map fun s => s.cps.toList.headD 0) = cs' at en
    subst en
    have hpm' : cs'.Perm ms := perm_of_map (f := s1) (fun s => s.cps.toList.headD 0) (fun _ => rfl) hpm
    have hs' : cs'.Pairwise (· ≤ ·) := by
      cases cs' with
      | nil => exact .nil
      | cons c0 r0 => exact rising_s1 r0 c0 hs
    have hn' : cs'.Nodup := hpm'.nodup_iff.mpr hn
    have hv := vals_of_strs hi
    rw [List.map_map] at hv
    exact fin I2 h' tk hk s' p out c (cs'.map fun c => V.str (s1 c)) k g o hp hg hv (by rw [List.length_map, hpm'.length_eq, sizeLine_eq]; omega) fun hp' => q1 p cs' hp' (lt_of_le_nodupN cs' hs' hn') fun n => (hpm'.mem_iff).trans (hmem n)
end
section
variable {Z : Zn} {Γ : List Kd} {k : Rz → List Kd → Prop} {ta : TE}
theorem ev_sortedI {K : PySem.W.Frag} (h : Ev Z ta Γ fun r Γ1 => ∃ ns : List Int, vw Γ1 r.fz = some (.lst (ns.map D.int)) ∧ ns.length ≤ 4000 ∧ (∀ ms : List Int, ms.Nodup → (∀ m ∈ ms, m ∈ ns) → ms.length < 64) ∧ ∀ ns' : List Int, ns'.Pairwise (· < ·) → (∀ n, n ∈ ns' ↔ n ∈ ns) → k (.n (.lst (ns'.map D.int))) Γ1) : Ev Z (tSortedSet K ta) Γ k := by
  have h' : Ev Z ta Γ fun r Γ1 => ∃ ns : List Int, vw Γ1 r = some (.lst (ns.map D.int)) ∧ ns.length ≤ 4000 ∧ (∀ ms : List Int, ms.Nodup → (∀ m ∈ ms, m ∈ ns) → ms.length < 64) ∧ ∀ ns' : List Int, ns'.Pairwise (· < ·) → (∀ n, n ∈ ns' ↔ n ∈ ns) → k (.n (.lst (ns'.map D.int))) Γ1 := ev_fz h
  refine fun σ H B I Q q => h' σ H B I _ fun r Γ1 v H1 B1 I1 s1 x1 ⟨ns, e, hl, h64, kk⟩ => ?_
  obtain ⟨p, xs, rfl, hp, r⟩ := (vw_ok I1 x1 e).lst I1.sub
  have ex := r.ints
  subst ex
  refine ⟨p, rfl, .inl ⟨ns, SqL.of hp, hl, h64, fun a ns' ha hs hm => ?_⟩⟩
  exact q (.n (.lst (ns'.map D.int))) Γ1 _ _ B1 (I1.free ha) s1 (RzOk.new I1 ha ⟨_, upd_same, Rs.ofInts ns'⟩) (kk ns' hs hm)
/-- texts of one sign -/
def sg (c : Nat) : D := .str (s1 c)
theorem Rs.ofSg {w : World} {B : Hp} (cs : List Nat) : Rs w B (cs.map fun c => V.str (s1 c)) (cs.map sg) := by
  have q := Rs.ofStrs (w := w) (B := B) (cs.map s1)
  rw [List.map_map, List.map_map] at q
  exact q
theorem Rs.sgs {w : World} {B : Hp} {vs : List V} {cs : List Nat} (r : Rs w B vs (cs.map sg)) : vs = cs.map fun c => V.str (s1 c) := by
  have e : cs.map sg = (cs.map s1).map D.str := by rw [List.map_map]; rfl
  rw [e] at r
  rw [r.strs, List.map_map]
  rfl
theorem ev_sortedS {K : PySem.W.Frag} (h : Ev Z ta Γ fun r Γ1 => ∃ cs : List Nat, vw Γ1 r.fz = some (.lst (cs.map sg)) ∧ cs.length ≤ 4000 ∧ (∀ ms : List Nat, ms.Nodup → (∀ m ∈ ms, m ∈ cs) → ms.length < 64) ∧ ∀ cs' : List Nat, cs'.Pairwise (· < ·) → (∀ n, n ∈ cs' ↔ n ∈ cs) → k (.n (.lst (cs'.map sg))) Γ1) : Ev Z (tSortedSet K ta) Γ k := by
  have h' : Ev Z ta Γ fun r Γ1 => ∃ cs : List Nat, vw Γ1 r = some (.lst (cs.map sg)) ∧ cs.length ≤ 4000 ∧ (∀ ms : List Nat, ms.Nodup → (∀ m ∈ ms, m ∈ cs) → ms.length < 64) ∧ ∀ cs' : List Nat, cs'.Pairwise (· < ·) → (∀ n, n ∈ cs' ↔ n ∈ cs) → k (.n (.lst (cs'.map sg))) Γ1 := ev_fz h
  refine fun σ H B I Q q => h' σ H B I _ fun r Γ1 v H1 B1 I1 z1 x1 ⟨cs, e, hl, h64, kk⟩ => ?_
  obtain ⟨p, xs, rfl, hp, r⟩ := (vw_ok I1 x1 e).lst I1.sub
  have ex := r.sgs
  subst ex
  refine ⟨p, rfl, .inr ⟨cs, SqL.of hp, hl, h64, fun a cs' ha hs hm => ?_⟩⟩
  exact q (.n (.lst (cs'.map sg))) Γ1 _ _ B1 (I1.free ha) z1 (RzOk.new I1 ha ⟨_, upd_same, Rs.ofSg cs'⟩) (kk cs' hs hm)
end
end Gm
namespace Gm
open PySem PySem.Spec PyProof.Rows L2

/-! ### dicts with tuples as keys: what stands there -/
mutual
/-- the value v of the heap B is the key k -/
inductive Ky (B : Hp) : NestedKey → V → Prop
  | non : Ky B .none .non
  | int (i : Int) : Ky B (.num i) (.int i)
  | bl (b : Bool) : Ky B (.num (if b = true then 1 else 0)) (.bl b)
  | str (s : Str) : Ky B (.text s) (.str s)
  | tup {a : Addr} {ks : List NestedKey} {vs : List V} : B a = some (.tup vs) → Kys B ks vs → Ky B (.tup ks) (.ref a)
inductive Kys (B : Hp) : List NestedKey → List V → Prop
  | nil : Kys B [] []
  | cons {k : NestedKey} {v : V} {ks : List NestedKey} {vs : List V} : Ky B k v → Kys B ks vs → Kys B (k :: ks) (v :: vs)
end

/-- the keys of a dict stand in B -/
def KeysIn (B : Hp) (xs : List (NestedKey × Addr × Value)) : Prop := ∀ x ∈ xs, Ky B x.1 (.ref x.2.1) ∧ x.1.depth ≤ 8

mutual
theorem Ky.mono {B B' : Hp} (h : Sb B B') : ∀ {k : NestedKey} {v : V}, Ky B k v → Ky B' k v
  | _, _, .non => .non
  | _, _, .int i => .int i
  | _, _, .bl b => .bl b
  | _, _, .str s => .str s
  | _, _, .tup e r => .tup (h _ _ e) (Kys.mono h r)
theorem Kys.mono {B B' : Hp} (h : Sb B B') : ∀ {ks : List NestedKey} {vs : List V}, Kys B ks vs → Kys B' ks vs
  | _, _, .nil => .nil
  | _, _, .cons a b => .cons (Ky.mono h a) (Kys.mono h b)
end
theorem KeysIn.mono {B B' : Hp} {xs : List (NestedKey × Addr × Value)} (h : Sb B B') (r : KeysIn B xs) : KeysIn B' xs := fun x hx => ⟨(r x hx).1.mono h, (r x hx).2⟩
mutual
theorem ky_is {P : Program} {w : World} {H : Hp} {h : Heap} (hok : HOk P w H h) : ∀ {k : NestedKey} {v : V} {u : Value}, Ky H k v → RelV v u → NestedIs h k u
  | _, _, _, .non, r => by cases r; exact .none
  | _, _, _, .int i, r => by obtain ⟨t, rfl⟩ := r; exact .int i t
  | _, _, _, .bl b, r => by cases r; exact .bool rfl
  | _, _, _, .str s, r => by obtain ⟨t, rfl⟩ := r; exact .text s t
  | _, _, _, .tup e ks, r => by
    cases r
    obtain ⟨_, its, rv, o, ho, hc, n, hd⟩ := hok _ _ e
    exact .tup ho hc hd (kys_is hok ks (by simpa using rv))
theorem kys_is {P : Program} {w : World} {H : Hp} {h : Heap} (hok : HOk P w H h) : ∀ {ks : List NestedKey} {vs : List V} {us : List Value}, Kys H ks vs → Vals vs us → NestedAll h ks us
  | _, _, _, .nil, r => by cases r; exact .nil
  | _, _, _, .cons a b, r => by
    cases r with
    | cons r1 r2 => exact .cons (ky_is hok a r1) (kys_is hok b r2)
end
theorem dn_rd {P : Program} {w : World} {H : Hp} {h : Heap} {a : Addr} {o : Obj} {xs : List (NestedKey × Addr × Value)} (hok : HOk P w H h) (e : H a = some (DNo w a o xs)) (hk : KeysIn H xs) :
    h.DictOfH (nestedKind P w) a xs ∧ (a == sysModules) = false ∧ xs.length ≤ sizeLine ∧ h.get? a = some o ∧ o.ExactDict := by
  obtain ⟨⟨⟨g, x, es, ep, hd, he, hn⟩, hl, hs⟩, _, _⟩ := hok a _ e
  exact ⟨⟨o, es, ep, g, x, hd, he, fun y hy => ⟨ky_is hok (hk y hy).1 rfl, (hk y hy).2⟩, hn⟩, hs, hl, g, x⟩
theorem dn_new {P : Program} {w : World} {H : Hp} {h : Heap} {a : Addr} {xs : List (NestedKey × Addr × Value)} (hd : h.DictOfH (nestedKind P w) a xs) (hs : (a == sysModules) = false) (hl : xs.length ≤ sizeLine) : ∃ o, ObjOk P w H h a (DNo w a o xs) := by
  obtain ⟨o, es, ep, g, x, d, he, _, hn⟩ := hd
  refine ⟨o, ⟨⟨g, x, es, ep, d, he, hn⟩, hl, hs⟩, ⟨o, g⟩, fun h1 h2 p k => ?_⟩
  obtain ⟨⟨g1, x1⟩, r1⟩ := p
  exact ⟨⟨k _ g1, x1⟩, r1⟩
/-- x is a key -/
def IsK (H : Hp) (x : V) (k : NestedKey) (ka : Addr) : Prop := x = .ref ka ∧ Ky H k (.ref ka) ∧ k.depth ≤ 8
def rInN (w : World) (neg : Bool) : R2 := fun x y H Q => ∃ k ka a o xs, IsK H x k ka ∧ y = .ref a ∧ H a = some (DNo w a o xs) ∧ KeysIn H xs ∧ Q (.bl (if neg = true then !(atKey xs k).isSome else (atKey xs k).isSome)) H
def rIxN (w : World) : R2 := fun y x H Q => ∃ k ka a o xs p v, IsK H x k ka ∧ y = .ref a ∧ H a = some (DNo w a o xs) ∧ KeysIn H xs ∧ atKey xs k = some p ∧ RelV v p.2 ∧ Q v H
def rSetN (w : World) : TSet := fun y x v H Q => ∃ k ka a o xs, IsK H x k ka ∧ y = .ref a ∧ H a = some (DNo w a o xs) ∧ KeysIn H xs ∧ xs.length < sizeLine ∧ ∀ o' u, RelV v u → Q (upd H a (DNo w a o' (storedH xs k ka u)))
def tNewN (w : World) : TE := fun _ H Q => ∀ p o, H p = none → Q (.ref p) (upd H p (DNo w p o []))
def tDispN (w : World) (tk tv : TE) : TE := fun σ H Q => ∀ p o, H p = none → tk σ (upd H p (DNo w p o [])) fun x H1 => tv σ H1 fun y H2 => ∃ k ka o', IsK H2 x k ka ∧ H2 p = some (DNo w p o' []) ∧ ∀ o u, RelV y u → Q (.ref p) (upd H2 p (DNo w p o [(k, ka, u)]))
/-- found.get(x, y) -/
def tGetN (w : World) (td tk tv : TE) : TE := fun σ H Q => td σ H fun y H1 => (∃ a o xs, y = V.ref a ∧ H1 a = some (DNo w a o xs) ∧ KeysIn H1 xs) ∧ tk σ H1 fun x H2 => tv σ H2 fun z H3 => ∃ k ka a o xs, IsK H3 x k ka ∧ y = .ref a ∧ H3 a = some (DNo w a o xs) ∧ KeysIn H3 xs ∧
  (∀ p, atKey xs k = some p → ∃ v, RelV v p.2 ∧ Q v H3) ∧ (atKey xs k = none → Q z H3)
/-- found.setdefault(x, y) -/
def tSdN (w : World) (td tk tv : TE) : TE := fun σ H Q => td σ H fun y H1 => (∃ a o xs, y = V.ref a ∧ H1 a = some (DNo w a o xs) ∧ KeysIn H1 xs) ∧ tk σ H1 fun x H2 => tv σ H2 fun z H3 => ∃ k ka a o xs, IsK H3 x k ka ∧ y = .ref a ∧ H3 a = some (DNo w a o xs) ∧ KeysIn H3 xs ∧ xs.length < sizeLine ∧
  (∀ p, atKey xs k = some p → ∃ v, RelV v p.2 ∧ Q v H3) ∧ (atKey xs k = none → ∀ o' u, RelV z u → Q z (upd H3 a (DNo w a o' (xs ++ [(k, ka, u)]))))
theorem storedH_len {xs : List (NestedKey × Addr × Value)} {k : NestedKey} {a : Addr} {v : Value} : (storedH xs k a v).length ≤ xs.length + 1 := by
  unfold storedH
  split
  · rw [List.length_map]; omega
  · rw [List.length_append]; exact Nat.le_refl _
section
variable {X : Cx}
theorem val_of_ref {u : Value} {a : Addr} (r : RelV (.ref a) u) : u = .ref a := r
/-- every value stands for one -/
theorem dn_write {pins : List (Addr × Obj)} {σ : L2.St} {H : Hp} {s : Shared} {a : Addr} {o : Obj} {xs ys : List (NestedKey × Addr × Value)} {h' : Heap} {tk : Nat} (I : L2.Inv X pins σ H s) (e : H a = some (DNo X.w a o xs)) (hs : (a == sysModules) = false) (hl : ys.length ≤ sizeLine)
    (sb : Heap.SameBut a s.heap h') (hd : h'.DictOfH (nestedKind X.prog X.w) a ys) : ∃ o', L2.Inv X pins σ (upd H a (DNo X.w a o' ys)) { s with heap := h', toks := tk } := by
  obtain ⟨o', new⟩ := dn_new (H := H) hd hs hl
  obtain ⟨o2, es, ep, g2, _⟩ := hd
  exact ⟨o', I.write (e := a) (by rw [e]; trivial) (.inl rfl) (fun b u hb hu => (sb.2 b hb).trans hu) ⟨o2, g2⟩ new⟩
theorem room8 (hu : X.A.units + 64 < cLine) : (nestedKind X.prog X.w).room X.A.in1 := by
  show X.A.in1.units + 8 < cLine
  simp only [Around.in1_units]
  omega
theorem op_inDN (hu : X.A.units + 64 < cLine) : OpR X (compareOp .In) (rInN X.w false) := by
  intro pins s σ H x y v u Q I rx ry h
  obtain ⟨k, ka, a, o, xs, ⟨rfl, hk, hd⟩, rfl, e, hi, q⟩ := h
  cases rx
  cases ry
  obtain ⟨D, hs, hl, g, _⟩ := dn_rd I.hok e hi
  exact wpAny_in_heap (knd := nestedKind X.prog X.w) (room8 hu) ⟨ky_is I.hok hk rfl, hd⟩ hs D ⟨.bl (atKey xs k).isSome, H, I.tok _, rfl, q⟩
theorem op_notInDN (hu : X.A.units + 64 < cLine) : OpR X (compareOp .NotIn) (rInN X.w true) := by
  intro pins s σ H x y v u Q I rx ry h
  obtain ⟨k, ka, a, o, xs, ⟨rfl, hk, hd⟩, rfl, e, hi, q⟩ := h
  cases rx
  cases ry
  obtain ⟨D, hs, hl, g, _⟩ := dn_rd I.hok e hi
  show wpAny _ _ (do return Value.bool (!(← contains (.ref a) (.ref ka)))) _ _ _
  exact wpAny_bind (wpAny_contains_heap (knd := nestedKind X.prog X.w) (room8 hu) ⟨ky_is I.hok hk rfl, hd⟩ hs D (wpAny_pure ⟨.bl (!(atKey xs k).isSome), H, I.tok _, rfl, q⟩))
theorem ix_dN (hu : X.A.units + 64 < cLine) : IxR X (rIxN X.w) := by
  intro value slice pins s σ H x y v u Q I rx ry h hs
  obtain ⟨k, ka, a, o, xs, p, z, ⟨rfl, hk, hd⟩, rfl, e, hi, hp, rz, q⟩ := h
  cases rx
  cases ry
  obtain ⟨D, hsm, hl, g, hx⟩ := dn_rd I.hok e hi
  exact subscriptTail_builtinR (x := p.2) ⟨o, g, hx.1⟩ PySem.F.slot_dict_getitem.lookup (wpAny_getItem_heap (knd := nestedKind X.prog X.w) (room8 hu) ⟨ky_is I.hok hk rfl, hd⟩ D hp ⟨rfl, z, H, I.tok _, rz, q⟩) hs
theorem set_dN (hu : X.A.units + 64 < cLine) : PSet X (rSetN X.w) := by
  intro pins s σ H y x v ov iv u Q I ry rx rv h
  obtain ⟨k, ka, a, o, xs, ⟨rfl, hk, hd⟩, rfl, e, hi, hl, q⟩ := h
  cases rx
  cases ry
  obtain ⟨D, hsm, _, g, hx⟩ := dn_rd I.hok e hi
  refine wpAny_setItem_heap (knd := nestedKind X.prog X.w) (hsz := Nat.le_of_lt hl) (room8 hu) ⟨ky_is I.hok hk rfl, hd⟩ D fun h' D' sb => ?_
  obtain ⟨o', J⟩ := dn_write (tk := s.toks + (nestedKind X.prog X.w).draws k) I e hsm (Nat.le_trans storedH_len hl) sb D'
  exact ⟨_, J, q o' u rv⟩
theorem pe_dnewN {pos : Pos} : PE X (.Dict [] [] pos) (tNewN X.w) := ⟨fun pins s σ H Q I h => by
  obtain ⟨o, new⟩ := dn_new (P := X.prog) (w := X.w) (H := upd H s.heap.objs.size (DNo X.w s.heap.objs.size default [])) (h := s.heap.push { cls := .type "dict", data := .dict #[] }) (a := s.heap.objs.size) (xs := []) (Heap.DictOfH.new _) (beq_eq_false_iff_ne.mpr (Nat.ne_of_gt I.big)) (Nat.zero_le _)
  exact wpAny_Dict_empty ⟨.ref s.heap.objs.size, _, I.laid (a := s.heap.objs.size) (t' := s.toks) (fun _ _ q => Heap.get?_push_of_some _ q) (Nat.le_refl _) (by obtain ⟨a, b, c⟩ := new; exact ⟨a, b, c⟩), rfl, h _ o (I.hok.fresh (Nat.le_refl _))⟩⟩
theorem pe_dispN (hu : X.A.units + 64 < cLine) {ke ve : Expr} {tk tv : TE} {pos : Pos} (hk : PE X ke tk) (hv : PE X ve tv) : PE X (.Dict [some ke] [ve] pos) (tDispN X.w tk tv) := ⟨fun pins s σ H Q I h => by
  refine wpAny_Dict_any rfl rfl (by simp) (by simp) ?_
  obtain ⟨o, new⟩ := dn_new (P := X.prog) (w := X.w) (H := upd H s.heap.objs.size (DNo X.w s.heap.objs.size default [])) (h := s.heap.push { cls := .type "dict", data := .dict #[] }) (a := s.heap.objs.size) (xs := []) (Heap.DictOfH.new _) (beq_eq_false_iff_ne.mpr (Nat.ne_of_gt I.big)) (Nat.zero_le _)
  have I1 : L2.Inv X pins σ (upd H s.heap.objs.size (DNo X.w s.heap.objs.size o [])) { s with heap := s.heap.push { cls := .type "dict", data := .dict #[] } } := I.laid (a := s.heap.objs.size) (t' := s.toks) (fun _ _ q => Heap.get?_push_of_some _ q) (Nat.le_refl _) (by obtain ⟨a, b, c⟩ := new; exact ⟨a, b, c⟩)
  have h := h s.heap.objs.size o (I.hok.fresh (Nat.le_refl _))
  generalize s.heap.objs.size = a at h I1 ⊢
  refine pairTrees_cons_walk (thn (hk.run pins _ σ _ _ I1 h) fun u s1 ⟨x, H1, J1, rx, q1⟩ => thn (hv.run pins s1 σ H1 _ J1 q1) fun v s2 ⟨y, H2, J2, ry, k, ka, o', ⟨ex, e, hd⟩, e2, q⟩ => pairTrees_nil_walk ?_)
  subst ex
  cases rx
  obtain ⟨D, hs, _, g, hx⟩ := dn_rd J2.hok e2 (fun _ z => nomatch z)
  unfold storeAll
  rw [List.forIn_cons]
  refine wpAny_bind (wpAny_bind (wpAny_dictSet_heap (knd := nestedKind X.prog X.w) (hsz := Nat.zero_le _) (by show X.A.units + 8 < cLine; omega) ⟨ky_is J2.hok e rfl, hd⟩ D fun h' D' sb => wpAny_pure ?_))
  obtain ⟨o2, J⟩ := dn_write (tk := s2.toks + (nestedKind X.prog X.w).draws k) J2 e2 hs (by show 1 ≤ sizeLine; rw [sizeLine_eq]; decide) sb D'
  show wpAny _ _ (forIn [] PUnit.unit _) _ _ _
  rw [List.forIn_nil]
  exact wpAny_pure ⟨.ref a, _, J, rfl, q o2 v ry⟩⟩
variable {o e f : Expr} {apos cpos : Pos} {td ty tx : TE}
theorem pe_getN (hu : X.A.units + 64 < cLine) (ho : PE X o td) (he : PE X e ty) (hf : PE X f tx) (m : M2 X o "get" apos e f cpos) : PE X (.Call (.Attribute o "get" apos) [e, f] [] cpos) (tGetN X.w td ty tx) := by
  refine ⟨fun pins s σ H Q I h => ?_⟩
  refine wpAny_Call_method m.base m.few m.line PySem.F.plainAttrs_dict PySem.F.slot_dict_get PySem.F.type_dict_get (thn (ho.run pins s σ H _ I h) fun u s1 ⟨x, H1, I1, rx, ⟨a, ob, xs, ex, e1, hk1⟩, q1⟩ => ?_)
  subst ex
  obtain rfl : u = Value.ref a := rx
  obtain ⟨D1, _, _, g1, hx1⟩ := dn_rd I1.hok e1 hk1
  refine ⟨⟨ob, g1, hx1.1⟩, fun b q => by cases q; exact ⟨ob, g1, hx1.2.1⟩, ?_⟩
  rw [m.trees]
  refine Calls.callWith_builtin rfl (Calls.evalArgs_plain (Calls.spliced_cons (thn (he.run pins s1 σ H1 _ I1 q1) fun iv s2 ⟨y, H2, I2, ry, q2⟩ =>
    Calls.spliced_cons (thn (hf.run pins s2 σ H2 _ I2 q2) fun fv s3 ⟨z, H3, I3, rz, k, ka, a', ob', xs', ⟨ey, ek, hd⟩, ea, e3, hk3, h1, h2⟩ => Calls.spliced_nil ?_))))
  subst ey
  cases ea
  cases ry
  obtain ⟨D, hs, hl, g, hx⟩ := dn_rd I3.hok e3 hk3
  refine call_meetsIn PySem.F.slot_dict_get ⟨ob', g, hx.1⟩ PySem.F.entry_dict_get (PySem.F.args_dict_get_3 _ _ _) (meetsH_dict_get_default (nestedKind X.prog X.w) a ka hs fv) ⟨room8 hu, k, xs', ⟨ky_is I3.hok ek rfl, hd⟩, D, ?_⟩
  cases ha : atKey xs' k with
  | none => exact ⟨z, H3, I3.tok _, rz, h2 ha⟩
  | some p =>
    obtain ⟨v, rv, q⟩ := h1 p ha
    exact ⟨v, H3, I3.tok _, rv, q⟩
theorem pe_sdN (hu : X.A.units + 64 < cLine) (ho : PE X o td) (he : PE X e ty) (hf : PE X f tx) (m : M2 X o "setdefault" apos e f cpos) : PE X (.Call (.Attribute o "setdefault" apos) [e, f] [] cpos) (tSdN X.w td ty tx) := by
  refine ⟨fun pins s σ H Q I h => ?_⟩
  refine wpAny_Call_method m.base m.few m.line PySem.F.plainAttrs_dict PySem.F.slot_dict_setdefault PySem.F.type_dict_setdefault (thn (ho.run pins s σ H _ I h) fun u s1 ⟨x, H1, I1, rx, ⟨a, ob, xs, ex, e1, hk1⟩, q1⟩ => ?_)
  subst ex
  obtain rfl : u = Value.ref a := rx
  obtain ⟨D1, _, _, g1, hx1⟩ := dn_rd I1.hok e1 hk1
  refine ⟨⟨ob, g1, hx1.1⟩, fun b q => by cases q; exact ⟨ob, g1, hx1.2.1⟩, ?_⟩
  rw [m.trees]
  refine Calls.callWith_builtin rfl (Calls.evalArgs_plain (Calls.spliced_cons (thn (he.run pins s1 σ H1 _ I1 q1) fun iv s2 ⟨y, H2, I2, ry, q2⟩ =>
    Calls.spliced_cons (thn (hf.run pins s2 σ H2 _ I2 q2) fun fv s3 ⟨z, H3, I3, rz, k, ka, a', ob', xs', ⟨ey, ek, hd⟩, ea, e3, hk3, hlt, h1, h2⟩ => Calls.spliced_nil ?_))))
  subst ey
  cases ea
  cases ry
  obtain ⟨D, hs, hl, g, hx⟩ := dn_rd I3.hok e3 hk3
  refine call_setdefault_heap (knd := nestedKind X.prog X.w) (hsz := hl) (room8 hu) ⟨ky_is I3.hok ek rfl, hd⟩ hs D (fun p hp => ?_) fun hn h' D' sb => ?_
  · obtain ⟨v, rv, q⟩ := h1 p hp
    exact ⟨v, H3, I3.tok _, rv, q⟩
  · rw [storedH_new hn] at D'
    obtain ⟨o2, J⟩ := dn_write (tk := s3.toks + (nestedKind X.prog X.w).draws k) I3 e3 hs (by rw [List.length_append]; exact hlt) sb D'
    exact ⟨z, _, J, rz, h2 hn o2 fv rz⟩

/-! ### walking the keys -/
def Itn (w : World) (d : Addr) (o : Obj) (xs : List (NestedKey × Addr × Value)) : It :=
  ⟨fun i H => H d = some (DNo w d o xs) ∧ KeysIn H xs ∧ i < xs.length, fun i H v H' => H' = H ∧ ∃ y, xs[i]? = some y ∧ v = .ref y.2.1, fun i H => H d = some (DNo w d o xs) ∧ KeysIn H xs ∧ xs.length ≤ i⟩
def iKeysN (w : World) (td : TE) : TI := fun σ H R => td σ H fun x H1 => ∃ d o xs, x = .ref d ∧ H1 d = some (DNo w d o xs) ∧ KeysIn H1 xs ∧ R (Itn w d o xs) H1
theorem dn_raw {P : Program} {w : World} {H : Hp} {h : Heap} {a : Addr} {o : Obj} {xs : List (NestedKey × Addr × Value)} (hok : HOk P w H h) (e : H a = some (DNo w a o xs)) :
    h.get? a = some o ∧ o.ExactDict ∧ (a == sysModules) = false ∧ xs.length ≤ sizeLine ∧ ∃ es ep, o.data = .dict es ep ∧ es.size = xs.length ∧ ∀ (i : Nat) (y : NestedKey × Addr × Value), xs[i]? = some y → ∃ en, es[i]? = some en ∧ en.key = .ref y.2.1 := by
  obtain ⟨⟨⟨g, x, es, ep, hd, he, hn⟩, hl, hs⟩, _, _⟩ := hok a _ e
  refine ⟨g, x, hs, hl, es, ep, hd, ?_, fun i y hy => ?_⟩
  · have q := congrArg List.length he
    rwa [Array.length_toList, List.length_map] at q
  · have q := congrArg (fun l => l[i]?) he
    simp only [List.getElem?_map, hy, Option.map_some] at q
    exact ⟨_, (Array.getElem?_toList).symm.trans q, rfl⟩
theorem turn_keysN {P : Program} {w : World} {K : PySem.W.Frag} {tg : Expr} {d : Addr} {o : Obj} {es : Array DictEntry} {ep : Nat} {xs : List (NestedKey × Addr × Value)} (it : Addr) (hod : o.data = .dict es ep) : Turn P w K tg (Itn w d o xs) [it] it (fun i h => h.IsKeyIter it d i xs.length ep) where
  mem := by simp
  obj := fun i h st b hb => by
    have e : b = it := by simpa using hb
    subst e
    obtain ⟨oi, e, c, dd⟩ := st
    exact ⟨oi, e, fun v z => by rw [dd] at z; cases z⟩
  keep := fun i h h' st k => st.at fun oi e => k it (by simp) oi e
  item := by
    intro X hP hw hK hc i pins s σ H E I hf st hg
    subst hP hw hK
    obtain ⟨hd, hk, hi⟩ := hg
    obtain ⟨f0, f1, f2, f3, f4, f5⟩ := hf it (by simp)
    obtain ⟨hgd, hx, hs, hl, es', ep', hdt, hsz, ent⟩ := dn_raw I.hok hd
    obtain ⟨rfl, rfl⟩ := dict_ep hod hdt
    obtain ⟨y, hy⟩ : ∃ p, xs[i]? = some p := ⟨xs[i], List.getElem?_eq_getElem hi⟩
    obtain ⟨en, hen, hkey⟩ := ent i y hy
    refine next_key_item st hgd hdt hsz hen fun h' st' sb => ?_
    have I1 : L2.Inv X pins σ H { s with heap := h' } := I.turned (t' := s.toks) (fun b ob hb e => (sb.2 b hb).trans e) f0 f1 f3 f4 f5
    obtain ⟨oi, e, c, dd⟩ := id st'
    exact ⟨en.key, rfl, go_of (s := { s with heap := h' }) e c dd (by decide) ⟨.ref y.2.1, H, I1, hkey, ⟨rfl, y, hy, rfl⟩, st', fun b hb => (hf b hb).1⟩⟩
  done := by
    intro X hP hw hK hc i pins s σ H E I hf st hg
    subst hP hw hK
    obtain ⟨hd, hk, hi⟩ := hg
    obtain ⟨f0, f1, f2, f3, f4, f5⟩ := hf it (by simp)
    obtain ⟨hgd, hx, hs, hl, es', ep', hdt, hsz, ent⟩ := dn_raw I.hok hd
    obtain ⟨rfl, rfl⟩ := dict_ep hod hdt
    exact next_key_end (I.ok.hd hc) st hgd hdt hsz hi fun h' eb => ⟨rfl, I.turned (t' := s.toks) (fun b ob hb e => eb b ob hb e) f0 f1 f3 f4 f5⟩
  self := fun _ _ _ _ _ st hQ => wpAny_pyIter_keyiter st hQ
theorem pi_keysN {tg : Expr} (he : PE X e td) : PI X tg e (iKeysN X.w td) := by
  refine ⟨fun pins s σ H R I h => ?_⟩
  refine thn (he.run pins s σ H _ I h) fun u s1 ⟨x, H1, I1, rx, d, o, xs, ex, hd, hk, q⟩ => ?_
  subst ex
  obtain rfl : u = Value.ref d := rx
  obtain ⟨hgd, hx, hs, hl, es, ep, hdt, hsz, ent⟩ := dn_raw I1.hok hd
  refine iter_keys hs hgd hx hdt (pi_one (tk := s1.toks) I1 _ (turn_keysN _ hdt) ⟨_, Heap.get?_push_size _ rfl, rfl, ?_⟩ q)
  rw [hsz] <;> rfl

/-! ### list(d), dict(pairs) -/
def rListN (w : World) : List V → Hp → VK → Prop := fun vs H Q => ∃ d o xs, vs = [V.ref d] ∧ H d = some (DNo w d o xs) ∧ ∀ p, H p = none → Q (.ref p) (upd H p (.lst (xs.map fun y => V.ref y.2.1)))
theorem call_listN (hc : X.calm = true) : CallR X (.type "list") (rListN X.w) := by
  intro pins s σ H vs us Q I r h
  obtain ⟨d, o, xs, rfl, hd, q⟩ := h
  obtain ⟨u, rfl, rx⟩ := r.one
  cases rx
  obtain ⟨hgd, hx, hs, hl, es, ep, hdt, hsz, ent⟩ := dn_raw I.hok hd
  refine PySem.W.kdl_call (kdl_raw hs hx hdt) (I.ok.hd hc) hgd (by omega) fun h' tk acc' c' kp e it => ?_
  have ea : acc'.toList = xs.map fun y => Value.ref y.2.1 := by
    have hl : acc'.toList.length = xs.length := by rw [Array.length_toList, it.1]; exact hsz
    apply List.ext_getElem?
    intro j
    rw [List.getElem?_map]
    cases hj : acc'.toList[j]? with
    | none =>
      have h1 := List.getElem?_eq_none_iff.mp hj
      rw [List.getElem?_eq_none (by omega)]
      rfl
    | some v =>
      obtain ⟨en, hen, hv⟩ := it.2 j v (by rw [← Array.getElem?_toList]; exact hj)
      cases hb : xs[j]? with
      | none =>
        have h1 := List.getElem?_eq_none_iff.mp hb
        have h2 := (List.getElem?_eq_some_iff.mp hj).1
        omega
      | some b =>
        obtain ⟨en2, h2, h3⟩ := ent j b hb
        rw [hen] at h2
        cases h2
        rw [hv, h3]
        rfl
  have eb : acc'.toList = (xs.map fun x => x.2.1).map Value.ref := by rw [ea, List.map_map]; rfl
  have rv : Vals ((xs.map fun x => x.2.1).map V.ref) acc'.toList := by rw [eb]; exact vals_refs _
  rw [List.map_map] at rv
  have hz : (xs.map fun y => V.ref y.2.1).length ≤ sizeLine := by rw [List.length_map]; omega
  refine ⟨.ref s.heap.objs.size, _, I.laid (t' := tk) (o := .lst (xs.map fun y => V.ref y.2.1)) kp (Nat.le_refl _) ?_, rfl, q _ (I.hok.fresh (Nat.le_refl _))⟩
  exact ⟨hz, acc'.toList, c', rv, by rw [Array.toArray_toList]; exact e⟩
end
end Gm
namespace Gm
open PySem PySem.Spec PyProof.Rows L2
mutual
theorem R.ky {w : World} {B : Hp} : ∀ {v : V} {d : D}, R w B v d → hsD d = true → Ky B (kyD d) v
  | _, _, .non, _ => by unfold kyD; exact .non
  | _, _, .bl b, _ => .bl b
  | _, _, .int i, _ => .int i
  | _, _, .str s, _ => .str s
  | _, _, .tup e r, h => .tup e (Rs.kys r h)
  | _, _, .lst _ _, h => by cases h
  | _, _, .dI _ _ _ _, h => by cases h
  | _, _, .dN _ _ _ _ _ _ _, h => by cases h
theorem Rs.kys {w : World} {B : Hp} : ∀ {vs : List V} {ds : List D}, Rs w B vs ds → hsDs ds = true → Kys B (kyDs ds) vs
  | _, _, .nil, _ => .nil
  | _, _, .cons a b, h => by
    have h' := h
    unfold hsDs at h'
    rw [Bool.and_eq_true] at h'
    exact .cons (R.ky a h'.1) (Rs.kys b h'.2)
end
/-- the entries of a dict, its keys and values as data -/
inductive RN (w : World) (B : Hp) : List (NestedKey × Addr × Value) → List (D × D) → Prop
  | nil : RN w B [] []
  | cons {ka : Addr} {u : Value} {v : V} {kd d : D} {xs : List (NestedKey × Addr × Value)} {kvs : List (D × D)} : KeyOk kd → R w B (.ref ka) kd → RelV v u → R w B v d → RN w B xs kvs → RN w B ((kyD kd, ka, u) :: xs) ((kd, d) :: kvs)
section
variable {w : World} {B H : Hp}
theorem RN.mono {B' : Hp} (h : Sb B B') {xs : List (NestedKey × Addr × Value)} {kvs : List (D × D)} (r : RN w B xs kvs) : RN w B' xs kvs := by
  induction r with
  | nil => exact .nil
  | cons a b c d e ih => exact .cons a (b.mono h) c (d.mono h) ih
theorem rn_of : ∀ {xs : List (NestedKey × Addr × Value)} {ks ds : List D} {vs : List V}, xs.map (·.1) = ks.map kyD → (∀ k ∈ ks, KeyOk k) → ds.length = ks.length → Vals vs (xs.map (·.2.2)) → Rs w B (xs.map fun x => V.ref x.2.1) ks → Rs w B vs ds → RN w B xs (ks.zip ds)
  | [], [], ds, vs, _, _, hl, _, _, _ => .nil
  | x :: xs, [], _, _, h, _, _, _, _, _ => by cases h
  | [], k :: ks, _, _, h, _, _, _, _, _ => by cases h
  | x :: xs, k :: ks, [], _, _, _, hl, _, _, _ => by cases hl
  | (x1, xa, xu) :: xs, k :: ks, d :: ds, vs, h1, h2, hl, h3, h4, h5 => by
    cases h4 with
    | cons a b =>
      cases h5 with
      | cons c e =>
        cases h3 with
        | cons f g =>
          simp only [List.map_cons, List.cons.injEq] at h1
          obtain ⟨h1, h1'⟩ := h1
          subst h1
          exact .cons (h2 _ List.mem_cons_self) a f c (rn_of h1' (fun k hk => h2 k (List.mem_cons_of_mem _ hk)) (by simpa using hl) g b e)
theorem RN.to {xs : List (NestedKey × Addr × Value)} {kvs : List (D × D)} (r : RN w B xs kvs) : ∃ (vs : List V) (ks ds : List D), xs.map (·.1) = ks.map kyD ∧ (∀ k ∈ ks, KeyOk k) ∧ ds.length = ks.length ∧ Vals vs (xs.map (·.2.2)) ∧ Rs w B (xs.map fun x => V.ref x.2.1) ks ∧ Rs w B vs ds ∧ kvs = ks.zip ds := by
  induction r with
  | nil => exact ⟨[], [], [], rfl, fun _ h => (nomatch h), rfl, .nil, .nil, .nil, rfl⟩
  | @cons ka u v kd d xs kvs a b c e r ih =>
    obtain ⟨vs, ks, ds, h1, h2, h3, h4, h5, h6, rfl⟩ := ih
    refine ⟨v :: vs, kd :: ks, d :: ds, by simp [h1], fun k hk => ?_, by simp [h3], .cons c h4, .cons b h5, .cons e h6, rfl⟩
    rcases List.mem_cons.mp hk with rfl | hk
    · exact a
    · exact h2 k hk
theorem ob_dN {p : Addr} {kvs : List (D × D)} : Ob w B H p (.dN kvs) ↔ ∃ o xs, H p = some (DNo w p o xs) ∧ RN w B xs kvs := by
  constructor
  · rintro ⟨o, xs, vs, ks, ds, e, h1, h2, h3, h4, h5, h6, rfl⟩
    exact ⟨o, xs, e, rn_of h1 h2 h3 h4 h5 h6⟩
  · rintro ⟨o, xs, e, r⟩
    obtain ⟨vs, ks, ds, h⟩ := r.to
    exact ⟨o, xs, vs, ks, ds, e, h⟩
theorem RN.len {xs : List (NestedKey × Addr × Value)} {kvs : List (D × D)} (r : RN w B xs kvs) : xs.length = kvs.length := by
  induction r with
  | nil => rfl
  | cons _ _ _ _ _ ih => simp [ih]
theorem RN.keys {xs : List (NestedKey × Addr × Value)} {kvs : List (D × D)} (r : RN w B xs kvs) (hs : Sb B H) : KeysIn H xs := by
  induction r with
  | nil => exact fun _ h => nomatch h
  | cons a b c d e ih =>
    intro x hx
    rcases List.mem_cons.mp hx with rfl | hx
    · exact ⟨(b.ky a.2.1).mono hs, a.2.2⟩
    · exact ih x hx
theorem RN.keysR {xs : List (NestedKey × Addr × Value)} {kvs : List (D × D)} (r : RN w B xs kvs) : Rs w B (xs.map fun y => V.ref y.2.1) (kvs.map (·.1)) := by
  induction r with
  | nil => exact .nil
  | cons a b c d e ih => exact .cons b ih
/-- the value at a key -/
def atN (kvs : List (D × D)) (k : NestedKey) : Option D := (kvs.find? fun p => decide (kyD p.1 = k)).map (·.2)
def stN (kvs : List (D × D)) (kd d : D) : List (D × D) := if (atN kvs (kyD kd)).isSome = true then kvs.map (fun p => if kyD p.1 = kyD kd then (p.1, d) else p) else kvs ++ [(kd, d)]
theorem stN_new {kvs : List (D × D)} {kd d : D} (h : atN kvs (kyD kd) = none) : stN kvs kd d = kvs ++ [(kd, d)] := by
  unfold stN
  rw [h]
  rfl
theorem RN.at {xs : List (NestedKey × Addr × Value)} {kvs : List (D × D)} (r : RN w B xs kvs) (k : NestedKey) : (atKey xs k = none ∧ atN kvs k = none) ∨ ∃ p d v, atKey xs k = some p ∧ atN kvs k = some d ∧ RelV v p.2 ∧ R w B v d := by
  induction r with
  | nil => exact .inl ⟨rfl, rfl⟩
  | @cons ka u v kd d xs kvs a b c e r ih =>
    by_cases h : kyD kd = k
    · refine .inr ⟨(ka, u), d, v, ?_, ?_, c, e⟩
      · unfold atKey; rw [List.find?_cons_of_pos (by simpa using h)]; rfl
      · unfold atN; rw [List.find?_cons_of_pos (by simpa using h)]; rfl
    · have e1 : atKey ((kyD kd, ka, u) :: xs) k = atKey xs k := by unfold atKey; rw [List.find?_cons_of_neg (by simpa using h)]
      have e2 : atN ((kd, d) :: kvs) k = atN kvs k := by unfold atN; rw [List.find?_cons_of_neg (by simpa using h)]
      rw [e1, e2]
      exact ih
theorem RN.map {xs : List (NestedKey × Addr × Value)} {kvs : List (D × D)} (r : RN w B xs kvs) {kd d : D} {v : V} {u : Value} (ru : RelV v u) (rd : R w B v d) : RN w B (xs.map (putAt (kyD kd) u)) (kvs.map (fun p => if kyD p.1 = kyD kd then (p.1, d) else p)) := by
  induction r with
  | nil => exact .nil
  | @cons ka u2 v2 kd2 d2 xs kvs a b c e r ih =>
    rw [List.map_cons, List.map_cons]
    by_cases h : kyD kd2 = kyD kd
    · have e1 : putAt (kyD kd) u (kyD kd2, ka, u2) = (kyD kd2, ka, u) := by unfold putAt; rw [if_pos h]
      rw [e1, if_pos h]
      exact .cons a b ru rd ih
    · have e1 : putAt (kyD kd) u (kyD kd2, ka, u2) = (kyD kd2, ka, u2) := by unfold putAt; rw [if_neg h]
      rw [e1, if_neg h]
      exact .cons a b c e ih
theorem RN.app {xs : List (NestedKey × Addr × Value)} {kvs : List (D × D)} (r : RN w B xs kvs) {kd d : D} {v : V} {u : Value} {ka : Addr} (a : KeyOk kd) (b : R w B (.ref ka) kd) (ru : RelV v u) (rd : R w B v d) : RN w B (xs ++ [(kyD kd, ka, u)]) (kvs ++ [(kd, d)]) := by
  induction r with
  | nil => exact .cons a b ru rd .nil
  | cons a' b' c' e' r ih => exact .cons a' b' c' e' ih
theorem RN.set {xs : List (NestedKey × Addr × Value)} {kvs : List (D × D)} (r : RN w B xs kvs) {kd d : D} {v : V} {u : Value} {ka : Addr} (a : KeyOk kd) (b : R w B (.ref ka) kd) (ru : RelV v u) (rd : R w B v d) : RN w B (storedH xs (kyD kd) ka u) (stN kvs kd d) := by
  rcases r.at (kyD kd) with ⟨h1, h2⟩ | ⟨p, d', v', h1, h2, _, _⟩
  · rw [storedH_new h1, stN_new h2]
    exact r.app a b ru rd
  · rw [storedH_old h1]
    unfold stN
    rw [h2, if_pos (show (some d').isSome = true from rfl)]
    exact r.map ru rd
theorem isK_of {kd : D} {v : V} (a : KeyOk kd) (r : R w B v kd) (hs : Sb B H) : ∃ ka, v = .ref ka ∧ IsK H v (kyD kd) ka := by
  obtain ⟨⟨ds, rfl⟩, h1, h2⟩ := a
  cases r with
  | tup e r => exact ⟨_, rfl, rfl, ((R.tup e r).ky h1).mono hs, h2⟩
end
section
variable {Z : Zn} {Γ : List Kd} {k : Rz → List Kd → Prop} {ta tb te td tk tv : TE}
theorem Vw.dN {w : World} {B H : Hp} {v : V} {kvs : List (D × D)} (hs : Sb B H) (x : Vw w B H v (.dN kvs)) : ∃ p o xs, v = .ref p ∧ H p = some (DNo w p o xs) ∧ RN w B xs kvs := by
  obtain ⟨p, e, y⟩ := x.ob hs rfl
  obtain ⟨o, xs, h1, h2⟩ := ob_dN.mp y
  exact ⟨p, o, xs, e, h1, h2⟩
theorem op_inN {w : World} {neg : Bool} {r1 r2 : Rz} {dk : D} {kvs : List (D × D)} (e1 : r1 = .d dk) (hk : KeyOk dk) (e2 : vw Γ r2 = some (.dN kvs)) (hw : Z.w = w) (h : k (.d (.bl (if neg = true then !(atN kvs (kyD dk)).isSome else (atN kvs (kyD dk)).isSome))) Γ) : Op2 Z (rInN w neg) r1 r2 Γ k := fun σ H B v1 v2 I x1 x2 Q q => by
  subst hw e1
  obtain ⟨p, o, xs, rfl, hp, r⟩ := (vw_ok I x2 e2).dN I.sub
  obtain ⟨ka, rfl, ik⟩ := isK_of (H := H) hk x1 I.sub
  refine ⟨_, ka, p, o, xs, ik, rfl, hp, r.keys I.sub, ?_⟩
  have e : (atKey xs (kyD dk)).isSome = (atN kvs (kyD dk)).isSome := by
    rcases r.at (kyD dk) with ⟨h1, h2⟩ | ⟨p, d', v', h1, h2, _, _⟩ <;> rw [h1, h2] <;> rfl
  rw [e]
  exact q (.d (.bl _)) Γ _ H B I (Sb.refl B) (.bl _) h
theorem op_ixN {w : World} {r1 r2 : Rz} {dk d : D} {kvs : List (D × D)} (e1 : r2 = .d dk) (hk : KeyOk dk) (e2 : vw Γ r1 = some (.dN kvs)) (hw : Z.w = w) (hd : atN kvs (kyD dk) = some d) (h : k (.d d) Γ) : Op2 Z (rIxN w) r1 r2 Γ k := fun σ H B v1 v2 I x1 x2 Q q => by
  subst hw e1
  obtain ⟨p, o, xs, rfl, hp, r⟩ := (vw_ok I x1 e2).dN I.sub
  obtain ⟨ka, rfl, ik⟩ := isK_of (H := H) hk x2 I.sub
  rcases r.at (kyD dk) with ⟨h1, h2⟩ | ⟨q', d', v', h1, h2, rv, rd⟩
  · rw [hd] at h2; cases h2
  · rw [hd] at h2
    cases h2
    exact ⟨_, ka, p, o, xs, q', v', ik, rfl, hp, r.keys I.sub, h1, rv, q (.d d) Γ _ H B I (Sb.refl B) rd h⟩
theorem ev_newN {w : World} (hw : Z.w = w) (h : k (.n (.dN [])) Γ) : Ev Z (tNewN w) Γ k := fun σ H B I Q q p o hp => by
  subst hw
  exact q (.n (.dN [])) Γ _ _ B (I.free hp) (Sb.refl B) (RzOk.new I hp (ob_dN.mpr ⟨o, [], upd_same, .nil⟩)) h
theorem dno_nt {w : World} {p : Addr} {o : Obj} {xs : List (NestedKey × Addr × Value)} : NT (DNo w p o xs) := fun _ z => nomatch z
/-- a loose dict becomes one of one's own -/
theorem ev_dispN {w : World} (hw : Z.w = w) (h : ∀ Ha, Ev { Z with H := Ha } tk Γ fun r1 Γ1 => ∃ dk, r1.fz = .d dk ∧ KeyOk dk ∧ Ev { Z with H := Ha } tv Γ1 fun r2 Γ2 => ∃ dv, r2.fz = .d dv ∧ k (.n (.dN [(dk, dv)])) Γ2) : Ev Z (tDispN w tk tv) Γ k := fun σ H B I Q q p o hp => by
  subst hw
  obtain ⟨hB, hZ⟩ := I.none_of hp
  have I1 : EnvOk { Z with H := upd Z.H p (DNo Z.w p o []) } Γ σ (upd H p (DNo Z.w p o [])) B := (I.free hp).inD upd_same hB fun i f d e => I.notSlot hp i f d e
  have h1 : Ev { Z with H := upd Z.H p (DNo Z.w p o []) } tk Γ fun r1 Γ1 => ∃ dk, r1 = .d dk ∧ KeyOk dk ∧ Ev { Z with H := upd Z.H p (DNo Z.w p o []) } tv Γ1 fun r2 Γ2 => ∃ dv, r2 = .d dv ∧ k (.n (.dN [(dk, dv)])) Γ2 :=
    ev_fz ((h (upd Z.H p (DNo Z.w p o []))).imp fun r1 Γ1 ⟨dk, e, a, b⟩ => ⟨dk, e, a, ev_fz b⟩)
  refine h1 σ _ B I1 _ fun r1 Γ1 x H1 B1 J1 s1 x1 ⟨dk, e1, ok, h2⟩ => h2 σ H1 B1 J1 _ fun r2 Γ2 y H2 B2 J2 s2 x2 ⟨dv, e2, kk⟩ => ?_
  subst e1 e2
  obtain ⟨O1, O2, O3, O4⟩ := J2.outD dno_nt hZ I.zM I.zB
  have x1' : R Z.w B2 x dk := R.mono s2 x1
  obtain ⟨ka, rfl, ik⟩ := isK_of ok x1' O1.sub
  refine ⟨_, ka, o, ik, O2, fun o' u ru => ?_⟩
  have I3 : EnvOk Z Γ2 σ (upd H2 p (DNo Z.w p o' [(kyD dk, ka, u)])) B2 := by
    refine ⟨fun a o2 h m n => (upd_ne fun z => by subst z; rw [hZ] at h; cases h).trans (O1.keepH a o2 h m n), fun a h z => ?_, O1.keepB, fun a o2 h => (upd_ne fun z => by subst z; rw [O3] at h; cases h).trans (O1.sub a o2 h), O1.nt, O1.apart, fun t ht => ?_, O1.len, fun i k' h => ?_, O1.sep, O1.zM, O1.zB⟩
    · unfold upd at z
      split at z
      · cases z
      · exact O1.there a h z
    · obtain ⟨ps, t1, t2, t3⟩ := O1.tabs t ht
      refine ⟨ps, (upd_ne fun z => ?_).trans t1, t2, fun pos cv hc => ?_⟩
      · rw [z, O2] at t1; cases t1
      · obtain ⟨c, e1, e2⟩ := t3 pos cv hc
        refine ⟨c, e1, (upd_ne fun z => ?_).trans e2⟩
        rw [z, O2] at e2
        exact dno_ne_code (Option.some.inj e2)
    · have w2 := O1.slots i k' h
      cases k' with
      | any => trivial
      | dat d => exact w2
      | raw v => exact w2
      | ob f d =>
        obtain ⟨p2, w1, w2, w3⟩ := w2
        refine ⟨p2, w1, w2.mono (Sb.refl _) fun u hu => (upd_ne fun z => ?_).trans hu, w3⟩
        subst z
        obtain ⟨v, g1, _⟩ := O1.slot h (fun z => nomatch z)
        rw [g1] at w1
        cases w1
        exact O4 i f d h g1
  exact q (.n (.dN [(dk, dv)])) Γ2 _ _ B2 I3 (s1.trans s2) ⟨p, rfl, ob_dN.mpr ⟨o', _, upd_same, .cons ok x1' ru x2 .nil⟩, O3, hZ, O4⟩ kk
theorem ev_getN {w : World} (hw : Z.w = w) (h : Ev Z td Γ fun r0 Γ1 => ∃ kvs, vw Γ1 r0.fz = some (.dN kvs) ∧ Ev Z tk Γ1 fun r1 Γ2 => ∃ dk, r1.fz = .d dk ∧ KeyOk dk ∧ Ev Z tv Γ2 fun r2 Γ3 => ∃ dz, r2.fz = .d dz ∧ vw Γ3 r0.fz = some (.dN kvs) ∧ k (.d ((atN kvs (kyD dk)).getD dz)) Γ3) : Ev Z (tGetN w td tk tv) Γ k := by
  subst hw
  have h' : Ev Z td Γ fun r0 Γ1 => r0.st = true ∧ ∃ kvs, vw Γ1 r0 = some (.dN kvs) ∧ Ev Z tk Γ1 fun r1 Γ2 => ∃ dk, r1 = .d dk ∧ KeyOk dk ∧ Ev Z tv Γ2 fun r2 Γ3 => ∃ dz, r2 = .d dz ∧ vw Γ3 r0 = some (.dN kvs) ∧ k (.d ((atN kvs (kyD dk)).getD dz)) Γ3 :=
    ev_fz (h.imp fun r0 Γ1 ⟨kvs, e, h1⟩ => ⟨fz_st r0, kvs, e, ev_fz (h1.imp fun r1 Γ2 ⟨dk, e1, ok, h2⟩ => ⟨dk, e1, ok, ev_fz h2⟩)⟩)
  refine fun σ H B I Q q => h' σ H B I _ fun r0 Γ1 v0 H1 B1 I1 s1 x0 ⟨st, kvs, e0, h1⟩ => ?_
  obtain ⟨p, o, xs, rfl, hp, r⟩ := (vw_ok I1 x0 e0).dN I1.sub
  refine ⟨⟨p, o, xs, rfl, hp, r.keys I1.sub⟩, h1 σ H1 B1 I1 _ fun r1 Γ2 v1 H2 B2 I2 s2 x1 ⟨dk, e1, ok, h2⟩ => h2 σ H2 B2 I2 _ fun r2 Γ3 v2 H3 B3 I3 s3 x2 ⟨dz, e2, e3, kk⟩ => ?_⟩
  subst e1 e2
  have x0' : RzOk Z σ Γ3 B3 H3 (.ref p) r0 := x0.mono st (s2.trans s3)
  obtain ⟨p', o', xs', ep, hp', r'⟩ := (vw_ok I3 x0' e3).dN I3.sub
  cases ep
  have x1' : R Z.w B3 v1 dk := R.mono s3 x1
  obtain ⟨ka, rfl, ik⟩ := isK_of ok x1' I3.sub
  refine ⟨_, ka, p, o', xs', ik, rfl, hp', r'.keys I3.sub, fun q' hq => ?_, fun hn => ?_⟩
  · rcases r'.at (kyD dk) with ⟨h1, h2⟩ | ⟨q2, d', v', h1, h2, rv, rd⟩
    · rw [hq] at h1; cases h1
    · rw [hq] at h1
      cases h1
      rw [h2] at kk
      exact ⟨v', rv, q (.d d') Γ3 _ H3 B3 I3 ((s1.trans s2).trans s3) rd kk⟩
  · rcases r'.at (kyD dk) with ⟨h1, h2⟩ | ⟨q2, d', v', h1, h2, rv, rd⟩
    · rw [h2] at kk
      exact q (.d dz) Γ3 _ H3 B3 I3 ((s1.trans s2).trans s3) x2 kk
    · rw [hn] at h1; cases h1
theorem iz_keysN {w : World} {B : Hp} {p : Addr} {o : Obj} {xs : List (NestedKey × Addr × Value)} {kvs : List (D × D)} (e : B p = some (DNo w p o xs)) (r : RN w B xs kvs) : Iz w (Itn w p o xs) (kvs.map (·.1)) B where
  stop := fun H B' h1 h2 => ⟨h2 _ _ (h1 _ _ e), (r.mono h1).keys h2, by rw [r.len, List.length_map]; exact Nat.le_refl _⟩
  go := fun i H B' h1 h2 hi => ⟨h2 _ _ (h1 _ _ e), (r.mono h1).keys h2, by rw [r.len]; simpa using hi⟩
  yld := fun T i H B' x H' hi h1 h2 h3 h4 y => by
    obtain ⟨rfl, y, hy, rfl⟩ := y
    have r2 := r.mono h1
    clear r e
    have key : ∀ {xs : List (NestedKey × Addr × Value)} {kvs : List (D × D)} (i : Nat), RN w B' xs kvs → ∀ y, xs[i]? = some y → ∃ d, (kvs.map (·.1))[i]? = some d ∧ R w B' (.ref y.2.1) d := by
      intro xs kvs i r
      induction r generalizing i with
      | nil => intro y hy; simp at hy
      | cons a b c d e ih =>
        intro y hy
        cases i with
        | zero => simp at hy; subst hy; exact ⟨_, rfl, b⟩
        | succ i =>
          obtain ⟨d, h1, h2⟩ := ih i y (by simpa using hy)
          exact ⟨d, by simpa using h1, h2⟩
    obtain ⟨d, h5, h6⟩ := key i r2 y hy
    exact ⟨B', d, Grow.refl h2 h3 h4, h5, h6⟩
/-- for k in a dict of data (frozen) -/
theorem it_keysN {w : World} {kd : List D → List Kd → Prop} (hw : Z.w = w) (h : Ev Z td Γ fun r Γ1 => ∃ kvs, r.fz = .d (.dN kvs) ∧ kd (kvs.map (·.1)) Γ1) : ItD Z (iKeysN w td) Γ kd := fun σ H B I Rr q => by
  subst hw
  have h' : Ev Z td Γ fun r Γ1 => ∃ kvs, r = .d (.dN kvs) ∧ kd (kvs.map (·.1)) Γ1 := ev_fz h
  refine h' σ H B I _ fun r Γ1 v H1 B1 I1 s1 x1 ⟨kvs, e, kk⟩ => ?_
  subst e
  obtain ⟨p, rfl, y⟩ := R.ob x1 rfl
  obtain ⟨o, xs, e, r⟩ := ob_dN.mp y
  exact ⟨p, o, xs, rfl, I1.sub _ _ e, r.keys I1.sub, q _ _ Γ1 H1 B1 I1 s1 (iz_keysN e r) kk⟩
/-- list(d) -/
theorem cb_listN {w : World} {r1 : Rz} {kvs : List (D × D)} (hw : Z.w = w) (e1 : vw Γ r1 = some (.dN kvs)) (h : k (.n (.lst (kvs.map (·.1)))) Γ) : Cb Z (rListN w) [r1] Γ k := by
  subst hw
  refine cb_new e1 (fun B H v1 hs x Q q => ?_) h
  obtain ⟨p, o, xs, rfl, hp, r⟩ := x.dN hs
  refine ⟨p, o, xs, rfl, hp, fun a ha => q a _ ha ?_⟩
  exact r.keysR
/-- d[x] = v, of a dict of one's own -/
theorem st_putN {w : World} {E : Eg} {i : Nat} (hw : Z.w = w) (h : Ev Z te Γ fun r Γ1 => ∃ dv, r.fz = .d dv ∧ (∃ f d, Γ1[i]? = some (.ob f d)) ∧ Ev Z tk Γ1 fun r2 Γ2 => ∃ f kvs dk, r2.fz = .d dk ∧ KeyOk dk ∧ Γ2[i]? = some (.ob f (.dN kvs)) ∧ kvs.length < 100000 ∧ E.nx (Γ2.set i (.ob f (.dN (stN kvs dk dv))))) : St Z (tAsg te (gSub (tVar i) tk (rSetN w))) Γ E := fun σ H B I D s => by
  subst hw
  have h' : Ev Z te Γ fun r Γ1 => ∃ dv, r = .d dv ∧ (∃ f d, Γ1[i]? = some (.ob f d)) ∧ Ev Z tk Γ1 fun r2 Γ2 => ∃ f kvs dk, r2 = .d dk ∧ KeyOk dk ∧ Γ2[i]? = some (.ob f (.dN kvs)) ∧ kvs.length < 100000 ∧ E.nx (Γ2.set i (.ob f (.dN (stN kvs dk dv)))) :=
    ev_fz (h.imp fun r Γ1 ⟨dv, e, g, h1⟩ => ⟨dv, e, g, ev_fz h1⟩)
  refine h' σ H B I _ fun r Γ1 v H1 B1 I1 s1 x1 ⟨dv, e1, hg, h1⟩ => ?_
  subst e1
  obtain ⟨σi, hσ⟩ : ∃ v, σ[i]? = some (some v) := by
    obtain ⟨f, kvs, hg⟩ := hg
    obtain ⟨v, h1, _⟩ := I1.slot hg (fun z => nomatch z)
    exact ⟨v, h1⟩
  refine ⟨σi, hσ, h1 σ H1 B1 I1 _ fun r2 Γ2 v2 H2 B2 I2 s2 x2 ⟨f, kvs, dk, e2, ok, g2, hl, kk⟩ => ?_⟩
  subst e2
  obtain ⟨v', g3, p, g4, g5, g6⟩ := I2.slot g2 (fun z => nomatch z)
  rw [hσ] at g3
  cases g3
  cases g4
  obtain ⟨o, xs, hp, r⟩ := ob_dN.mp g5
  obtain ⟨ka, rfl, ik⟩ := isK_of ok x2 I2.sub
  refine ⟨_, ka, p, o, xs, ik, rfl, hp, r.keys I2.sub, by rw [r.len]; exact Nat.lt_of_lt_of_le hl (by decide), fun o' u ru => ?_⟩
  exact s.nx σ _ B2 _ (I2.write (d' := .dN (stN kvs dk dv)) g2 hσ (ob_dN.mpr ⟨o', _, upd_same, r.set ok x2 ru (R.mono s2 x1)⟩)) (s1.trans s2) kk
end
end Gm
namespace Gm
open PySem PySem.Spec PyProof.Rows L2

/-! ### dicts with numbers as keys -/
inductive RI (w : World) (B : Hp) : List (Key × V) → List (Int × D) → Prop
  | nil : RI w B [] []
  | cons {i : Int} {v : V} {d : D} {xs : List (Key × V)} {kvs : List (Int × D)} : R w B v d → RI w B xs kvs → RI w B ((.inl i, v) :: xs) ((i, d) :: kvs)
section
variable {w : World} {B H : Hp}
theorem ri_of : ∀ {xs : List (Key × V)} {ks : List Int} {ds : List D}, xs.map (·.1) = ks.map Sum.inl → ds.length = ks.length → Rs w B (xs.map (·.2)) ds → RI w B xs (ks.zip ds)
  | [], [], ds, _, _, _ => .nil
  | x :: xs, [], _, h, _, _ => by cases h
  | [], k :: ks, _, h, _, _ => by cases h
  | x :: xs, k :: ks, [], _, hl, _ => by cases hl
  | (x1, xv) :: xs, k :: ks, d :: ds, h, hl, r => by
    cases r with
    | cons a b =>
      simp only [List.map_cons, List.cons.injEq] at h
      obtain ⟨h1, h2⟩ := h
      subst h1
      exact .cons a (ri_of h2 (by simpa using hl) b)
theorem RI.to {xs : List (Key × V)} {kvs : List (Int × D)} (r : RI w B xs kvs) : ∃ (ks : List Int) (ds : List D), xs.map (·.1) = ks.map Sum.inl ∧ ds.length = ks.length ∧ Rs w B (xs.map (·.2)) ds ∧ kvs = ks.zip ds := by
  induction r with
  | nil => exact ⟨[], [], rfl, rfl, .nil, rfl⟩
  | @cons i v d xs kvs a r ih =>
    obtain ⟨ks, ds, h1, h2, h3, rfl⟩ := ih
    exact ⟨i :: ks, d :: ds, by simp [h1], by simp [h2], .cons a h3, rfl⟩
theorem ob_dI {p : Addr} {kvs : List (Int × D)} : Ob w B H p (.dI kvs) ↔ ∃ xs, H p = some (.dK xs) ∧ RI w B xs kvs := by
  constructor
  · rintro ⟨xs, ks, ds, e, h1, h2, h3, rfl⟩
    exact ⟨xs, e, ri_of h1 h2 h3⟩
  · rintro ⟨xs, e, r⟩
    obtain ⟨ks, ds, h1, h2, h3, h4⟩ := r.to
    exact ⟨xs, ks, ds, e, h1, h2, h3, h4⟩
theorem RI.len {xs : List (Key × V)} {kvs : List (Int × D)} (r : RI w B xs kvs) : xs.length = kvs.length := by
  induction r with
  | nil => rfl
  | cons _ _ ih => simp [ih]
def gI (kvs : List (Int × D)) (i : Int) : Option D := (kvs.find? fun p => decide (p.1 = i)).map (·.2)
def sI (kvs : List (Int × D)) (i : Int) (d : D) : List (Int × D) := if (kvs.any fun p => decide (p.1 = i)) = true then kvs.map (fun p => if p.1 = i then (p.1, d) else p) else kvs ++ [(i, d)]
theorem RI.get {xs : List (Key × V)} {kvs : List (Int × D)} (r : RI w B xs kvs) (i : Int) : (valV xs (Sum.inl i) = none ∧ gI kvs i = none) ∨ ∃ v d, valV xs (Sum.inl i) = some v ∧ gI kvs i = some d ∧ R w B v d := by
  induction r with
  | nil => exact .inl ⟨rfl, rfl⟩
  | @cons j v d xs kvs a r ih =>
    by_cases h : j = i
    · subst h
      refine .inr ⟨v, d, ?_, ?_, a⟩
      · unfold valV; rw [List.find?_cons_of_pos (by simp)]; rfl
      · unfold gI; rw [List.find?_cons_of_pos (by simp)]; rfl
    · have e1 : valV ((Sum.inl j, v) :: xs) (Sum.inl i : Key) = valV xs (Sum.inl i) := by unfold valV; rw [List.find?_cons_of_neg (by simpa using h)]
      have e2 : gI ((j, d) :: kvs) i = gI kvs i := by unfold gI; rw [List.find?_cons_of_neg (by simpa using h)]
      rw [e1, e2]
      exact ih
theorem RI.any {xs : List (Key × V)} {kvs : List (Int × D)} (r : RI w B xs kvs) (i : Int) : (xs.any fun kv => decide (kv.1 = (Sum.inl i : Key))) = kvs.any fun p => decide (p.1 = i) := by
  induction r with
  | nil => rfl
  | @cons j v d xs kvs a r ih =>
    rw [List.any_cons, List.any_cons, ih]
    have e : decide ((Sum.inl j : Key) = Sum.inl i) = decide (j = i) := by simp
    show (decide ((Sum.inl j : Key) = Sum.inl i) || _) = _
    rw [e]
theorem RI.map {xs : List (Key × V)} {kvs : List (Int × D)} (r : RI w B xs kvs) {i : Int} {v : V} {d : D} (rd : R w B v d) : RI w B (xs.map fun kv => if kv.1 = (Sum.inl i : Key) then (kv.1, v) else kv) (kvs.map fun p => if p.1 = i then (p.1, d) else p) := by
  induction r with
  | nil => exact .nil
  | @cons j v2 d2 xs kvs a r ih =>
    rw [List.map_cons, List.map_cons]
    by_cases h : j = i
    · subst h
      rw [if_pos rfl, if_pos rfl]
      exact .cons rd ih
    · rw [if_neg (by simpa using h), if_neg h]
      exact .cons a ih
theorem RI.app {xs : List (Key × V)} {kvs : List (Int × D)} (r : RI w B xs kvs) {i : Int} {v : V} {d : D} (rd : R w B v d) : RI w B (xs ++ [(Sum.inl i, v)]) (kvs ++ [(i, d)]) := by
  induction r with
  | nil => exact .cons rd .nil
  | cons a r ih => exact .cons a ih
theorem RI.put {xs : List (Key × V)} {kvs : List (Int × D)} (r : RI w B xs kvs) {i : Int} {v : V} {d : D} (rd : R w B v d) : RI w B (putK xs (Sum.inl i) v) (sI kvs i d) := by
  unfold putK sI
  rw [r.any i]
  split
  · exact r.map rd
  · exact r.app rd
theorem rs_rep {v : V} {d : D} (a : R w B v d) : ∀ n : Nat, Rs w B (List.replicate n [v]).flatten (List.replicate n d)
  | 0 => .nil
  | n + 1 => .cons a (rs_rep a n)
theorem Vw.dI {v : V} {kvs : List (Int × D)} (hs : Sb B H) (x : Vw w B H v (.dI kvs)) : ∃ p xs, v = .ref p ∧ H p = some (.dK xs) ∧ RI w B xs kvs := by
  obtain ⟨p, e, y⟩ := x.ob hs rfl
  obtain ⟨xs, h1, h2⟩ := ob_dI.mp y
  exact ⟨p, xs, e, h1, h2⟩
end
def rInI (neg : Bool) : R2 := fun y x H Q => ∃ a kvs k, x = .ref a ∧ H a = some (.dK kvs) ∧ y = kV k ∧ Q (.bl (if neg = true then !(valV kvs k).isSome else (valV kvs k).isSome)) H
section
variable {X : Cx}
theorem op_inDI (hu : X.A.units + 64 < cLine) : OpR X (compareOp .In) (rInI false) := by
  intro pins s σ H y x v u Q I ry rx h
  obtain ⟨a, kvs, k, rfl, e, rfl, q⟩ := h
  cases rx
  exact d_in (by omega) I (.inl ⟨kvs, k, .inl e, rfl, rfl⟩) ry fun s3 I3 => ⟨.bl (valV kvs k).isSome, H, I3, rfl, q⟩
theorem op_notInDI (hu : X.A.units + 64 < cLine) : OpR X (compareOp .NotIn) (rInI true) := by
  intro pins s σ H y x v u Q I ry rx h
  obtain ⟨a, kvs, k, rfl, e, rfl, q⟩ := h
  cases rx
  exact d_notIn (by omega) I (.inl ⟨kvs, k, .inl e, rfl, rfl⟩) ry fun s3 I3 => ⟨.bl (!(valV kvs k).isSome), H, I3, rfl, q⟩
theorem ip_orB : PIp X .BitOr (fun x y H Q => ∃ a b, x = .bl a ∧ y = .bl b ∧ Q (.bl (a || b)) H) := by
  intro pins s σ H x y v u Q I rx ry h
  obtain ⟨a, b, rfl, rfl, q⟩ := h
  cases rx
  cases ry
  exact ior_bool ⟨.bl (a || b), H, I, rfl, q⟩
/-- xs[i], by values, i not below 0 -/
def rGetL : V → V → Hp → VK → Prop := fun o i H Q => ∃ (p : Addr) (xs : List V) (n : Nat) (v : V), o = .ref p ∧ i = .int (n : Int) ∧ H p = some (.lst xs) ∧ xs[n]? = some v ∧ Q v H
theorem get_list : PGet X rGetL := by
  intro pins s σ H o i ov iv Q I ro ri h
  obtain ⟨p, xs, n, v, rfl, rfl, hp, hv, q⟩ := h
  cases ro
  obtain ⟨t, rfl⟩ := ri
  obtain ⟨its, r, pl, hz⟩ := I.list (SqL.of hp)
  obtain ⟨w, ew, rw'⟩ := r.get hv
  have hl := r.length
  have hn := line63
  have hj : n < xs.length := (List.getElem?_eq_some_iff.mp hv).1
  refine wpAny_mono (wpAny_getItem_list (Q := fun r s' => r = w ∧ EP X pins σ Q w s') pl.isList (Int.natCast_nonneg n) (by omega) (by simpa using ew) ⟨rfl, v, H, I, rw', q⟩) (fun r s' ⟨e, q⟩ => by subst e; exact q) fun _ _ e => e
end
section
variable {Z : Zn} {Γ : List Kd} {k : Rz → List Kd → Prop} {ta tb te td tk tv : TE}
theorem op_inI' {neg : Bool} {r1 r2 : Rz} {i : Int} {kvs : List (Int × D)} (e1 : vw Γ r1 = some (.int i)) (e2 : vw Γ r2 = some (.dI kvs)) (h : k (.d (.bl (if neg = true then !(gI kvs i).isSome else (gI kvs i).isSome))) Γ) : Op2 Z (rInI neg) r1 r2 Γ k :=
  op2_val e1 e2 (fun B H v1 v2 hs x1 x2 Q q => by
    rw [x1.int]
    obtain ⟨p, xs, rfl, hp, r⟩ := x2.dI hs
    refine ⟨p, xs, .inl i, rfl, hp, rfl, ?_⟩
    have e : (valV xs (Sum.inl i)).isSome = (gI kvs i).isSome := by
      rcases r.get i with ⟨h1, h2⟩ | ⟨v, d, h1, h2, _⟩ <;> rw [h1, h2] <;> rfl
    rw [e]
    exact q _ (.bl _)) h
theorem ev_newI (h : k (.n (.dI [])) Γ) : Ev Z tDNewK Γ k := fun σ H B I Q q p hp =>
  q (.n (.dI [])) Γ _ _ B (I.free hp) (Sb.refl B) (RzOk.new I hp (ob_dI.mpr ⟨[], upd_same, .nil⟩)) h
theorem ev_dget (h : Ev Z td Γ fun r0 Γ1 => Ev Z tk Γ1 fun r1 Γ2 => ∃ kvs i d, vw Γ2 r0.fz = some (.dI kvs) ∧ vw Γ2 r1.fz = some (.int i) ∧ gI kvs i = some d ∧ k (.d d) Γ2) : Ev Z (tDGet td tk) Γ k := by
  have h' : Ev Z td Γ fun r0 Γ1 => r0.st = true ∧ Ev Z tk Γ1 fun r1 Γ2 => ∃ kvs i d, vw Γ2 r0 = some (.dI kvs) ∧ vw Γ2 r1 = some (.int i) ∧ gI kvs i = some d ∧ k (.d d) Γ2 := ev_fz (h.imp fun r0 Γ1 h1 => ⟨fz_st r0, ev_fz h1⟩)
  refine fun σ H B I Q q => h' σ H B I _ fun r0 Γ1 v0 H1 B1 I1 s1 x0 ⟨st, h1⟩ => h1 σ H1 B1 I1 _ fun r1 Γ2 v1 H2 B2 I2 s2 x1 ⟨kvs, i, d, e0, e1, hg, kk⟩ => ?_
  have x0' : RzOk Z σ Γ2 B2 H2 v0 r0 := x0.mono st s2
  obtain ⟨p, xs, rfl, hp, r⟩ := (vw_ok I2 x0' e0).dI I2.sub
  rw [(vw_ok I2 x1 e1).int]
  rcases r.get i with ⟨h1, h2⟩ | ⟨v, d', h1, h2, rd⟩
  · rw [hg] at h2; cases h2
  · rw [hg] at h2
    cases h2
    exact ⟨p, v, rfl, .inl ⟨xs, .inl i, .inl hp, rfl, h1.symm⟩, q (.d d) Γ2 _ H2 B2 I2 (s1.trans s2) rd kk⟩
theorem ev_dget2 (h : Ev Z td Γ fun r0 Γ1 => (∃ kvs, vw Γ1 r0.fz = some (.dI kvs)) ∧ Ev Z tk Γ1 fun r1 Γ2 => Ev Z tv Γ2 fun r2 Γ3 => ∃ kvs i dz, vw Γ3 r0.fz = some (.dI kvs) ∧ r1.fz = .d (.int i) ∧ r2.fz = .d dz ∧ k (.d ((gI kvs i).getD dz)) Γ3) : Ev Z (tDGet2 td tk tv) Γ k := by
  have h' : Ev Z td Γ fun r0 Γ1 => r0.st = true ∧ (∃ kvs, vw Γ1 r0 = some (.dI kvs)) ∧ Ev Z tk Γ1 fun r1 Γ2 => r1.st = true ∧ Ev Z tv Γ2 fun r2 Γ3 => ∃ kvs i dz, vw Γ3 r0 = some (.dI kvs) ∧ r1 = .d (.int i) ∧ r2 = .d dz ∧ k (.d ((gI kvs i).getD dz)) Γ3 :=
    ev_fz (h.imp fun r0 Γ1 ⟨e, h1⟩ => ⟨fz_st r0, e, ev_fz (h1.imp fun r1 Γ2 h2 => ⟨fz_st r1, ev_fz h2⟩)⟩)
  refine fun σ H B I Q q => h' σ H B I _ fun r0 Γ1 v0 H1 B1 I1 s1 x0 ⟨st, ⟨kv0, e00⟩, h1⟩ => ?_
  obtain ⟨p0, xs0, rfl, hp0, _⟩ := (vw_ok I1 x0 e00).dI I1.sub
  refine ⟨p0, rfl, .inl ⟨xs0, .inl hp0⟩, h1 σ H1 B1 I1 _ fun r1 Γ2 v1 H2 B2 I2 s2 x1 ⟨st1, h2⟩ => h2 σ H2 B2 I2 _ fun r2 Γ3 v2 H3 B3 I3 s3 x2 ⟨kvs, i, dz, e0, e1, e2, kk⟩ => ?_⟩
  subst e1 e2
  have x0' : RzOk Z σ Γ3 B3 H3 (.ref p0) r0 := x0.mono st (s2.trans s3)
  obtain ⟨p, xs, ep, hp, r⟩ := (vw_ok I3 x0' e0).dI I3.sub
  cases ep
  cases x1
  rcases r.get i with ⟨h1, h2⟩ | ⟨v, d', h1, h2, rd⟩
  · rw [h2] at kk
    exact ⟨none, .inl ⟨xs, .inl i, .inl hp, rfl, h1.symm⟩, q (.d dz) Γ3 _ H3 B3 I3 ((s1.trans s2).trans s3) x2 kk⟩
  · rw [h2] at kk
    exact ⟨some v, .inl ⟨xs, .inl i, .inl hp, rfl, h1.symm⟩, q (.d d') Γ3 _ H3 B3 I3 ((s1.trans s2).trans s3) rd kk⟩
/-- d[i] = v -/
theorem st_dput {E : Eg} {j : Nat} (h : Ev Z tv Γ fun r Γ1 => ∃ dv, r.fz = .d dv ∧ (∃ f d, Γ1[j]? = some (.ob f d)) ∧ Ev Z tk Γ1 fun r2 Γ2 => ∃ f kvs i, vw Γ2 r2.fz = some (.int i) ∧ Γ2[j]? = some (.ob f (.dI kvs)) ∧ kvs.length < 100000 ∧ E.nx (Γ2.set j (.ob f (.dI (sI kvs i dv))))) : St Z (sDPut (tVar j) tk tv) Γ E := fun σ H B I D s => by
  have h' : Ev Z tv Γ fun r Γ1 => ∃ dv, r = .d dv ∧ (∃ f d, Γ1[j]? = some (.ob f d)) ∧ Ev Z tk Γ1 fun r2 Γ2 => ∃ f kvs i, vw Γ2 r2 = some (.int i) ∧ Γ2[j]? = some (.ob f (.dI kvs)) ∧ kvs.length < 100000 ∧ E.nx (Γ2.set j (.ob f (.dI (sI kvs i dv)))) :=
    ev_fz (h.imp fun r Γ1 ⟨dv, e, g, h1⟩ => ⟨dv, e, g, ev_fz h1⟩)
  refine h' σ H B I _ fun r Γ1 v H1 B1 I1 s1 x1 ⟨dv, e1, ⟨f0, d0, hg⟩, h1⟩ => ?_
  subst e1
  obtain ⟨vj, hσ, _⟩ := I1.slot hg (fun z => nomatch z)
  refine ⟨vj, hσ, h1 σ H1 B1 I1 _ fun r2 Γ2 v2 H2 B2 I2 s2 x2 ⟨f, kvs, i, e2, g2, hl, kk⟩ => ?_⟩
  obtain ⟨v', g3, p, g4, g5, g6⟩ := I2.slot g2 (fun z => nomatch z)
  rw [hσ] at g3
  cases g3
  cases g4
  obtain ⟨xs, hp, r⟩ := ob_dI.mp g5
  rw [(vw_ok I2 x2 e2).int]
  exact ⟨p, _, rfl, .inl ⟨xs, .inl i, hp, rfl, by rw [r.len]; exact Nat.lt_of_lt_of_le hl (by decide), rfl⟩, s.nx σ _ B2 _ (I2.write (d' := .dI (sI kvs i dv)) g2 hσ (ob_dI.mpr ⟨_, upd_same, r.put (R.mono s2 x1)⟩)) (s1.trans s2) kk⟩

/-! ### lists of one's own -/
theorem slot_lst {σ : L2.St} {H B : Hp} {i : Nat} {f : Bool} {ds : List D} {v : V} (I : EnvOk Z Γ σ H B) (hg : Γ[i]? = some (.ob f (.lst ds))) (x : σ[i]? = some (some v)) : ∃ p xs, v = .ref p ∧ H p = some (.lst xs) ∧ Rs Z.w B xs ds := by
  obtain ⟨v', h1, p, h2, ⟨xs, h3, h4⟩, h5⟩ := I.slot hg (fun z => nomatch z)
  rw [x] at h1
  cases h1
  cases h2
  exact ⟨p, xs, rfl, h3, h4⟩
theorem mt_popL {i : Nat} {f : Bool} {ds : List D} {d : D} (hg : Γ[i]? = some (.ob f (.lst (ds ++ [d])))) (hk : k (.d d) (Γ.set i (.ob f (.lst ds)))) : Mt Z rPop (.o i) [] Γ k := fun σ H B v vs I x0 x1 Q q => by
  have e := x1.zero
  subst e
  have x0' : σ[i]? = some (some v) := x0
  obtain ⟨p, xs, rfl, h3, h4⟩ := slot_lst I hg x0'
  have hl := h4.length
  rw [List.length_append] at hl
  have hl' : xs.length - 1 = ds.length := by rw [hl]; rfl
  obtain ⟨y, hy, ry⟩ := h4.get' (i := ds.length) (d := d) (by simp)
  refine ⟨p, xs, y, rfl, rfl, h3, by rw [hl']; exact hy, ?_⟩
  have h5 := h4.dropLast
  rw [List.dropLast_concat] at h5
  exact q (.d d) _ _ _ B (I.write (d' := .lst ds) hg x0' ⟨_, upd_same, h5⟩) (Sb.refl B) ry hk
theorem mt_pop0 {i : Nat} {f : Bool} {ds : List D} {d : D} (hg : Γ[i]? = some (.ob f (.lst (d :: ds)))) (hk : k (.d d) (Γ.set i (.ob f (.lst ds)))) : Mt Z rPopAt (.o i) [.d (.int 0)] Γ k := fun σ H B v vs I x0 x1 Q q => by
  obtain ⟨v1, rfl, y⟩ := x1.one
  have y' := y Γ H
  cases y'
  have x0' : σ[i]? = some (some v) := x0
  obtain ⟨p, xs, rfl, h3, h4⟩ := slot_lst I hg x0'
  have h4' := h4
  cases h4 with
  | @cons x d2 xs ds2 a b =>
    refine ⟨p, x :: xs, 0, 0, x, rfl, rfl, h3, by decide, by decide, ?_, rfl, ?_⟩
    · unfold seqIndex?
      simp
    · exact q (.d d) _ _ _ B (I.write (d' := .lst ds) hg x0' ⟨_, upd_same, b⟩) (Sb.refl B) a hk
theorem mt_ext {i : Nat} {f : Bool} {ds es : List D} (hg : Γ[i]? = some (.ob f (.lst ds))) (hl : ds.length + es.length ≤ 100000) (hk : k (.d .non) (Γ.set i (.ob f (.lst (ds ++ es))))) : Mt Z rExtend (.o i) [.d (.lst es)] Γ k := fun σ H B v vs I x0 x1 Q q => by
  obtain ⟨v1, rfl, y⟩ := x1.one
  obtain ⟨b, rfl, zs, h1, h2⟩ := R.ob (y Γ H) rfl
  have x0' : σ[i]? = some (some v) := x0
  obtain ⟨p, xs, rfl, h3, h4⟩ := slot_lst I hg x0'
  refine ⟨p, b, xs, zs, rfl, rfl, h3, I.sub _ _ h1, by rw [h4.length, h2.length]; exact Nat.le_trans hl (by decide), ?_⟩
  exact q (.d .non) _ _ _ B (I.write (d' := .lst (ds ++ es)) hg x0' ⟨_, upd_same, h4.append h2⟩) (Sb.refl B) R.non hk
/-- a result: a new list -/
theorem op2_new {r : R2} {r1 r2 : Rz} {d1 d2 : D} {ds : List D} (e1 : vw Γ r1 = some d1) (e2 : vw Γ r2 = some d2)
    (h : ∀ B H v1 v2, Sb B H → Vw Z.w B H v1 d1 → Vw Z.w B H v2 d2 → ∀ Q : VK, (∀ p xs, H p = none → Rs Z.w B xs ds → Q (.ref p) (upd H p (.lst xs))) → r v1 v2 H Q) (hk : k (.n (.lst ds)) Γ) : Op2 Z r r1 r2 Γ k :=
  fun σ H B v1 v2 I x1 x2 Q q => h B H v1 v2 I.sub (vw_ok I x1 e1) (vw_ok I x2 e2) Q fun p xs hp r => q (.n (.lst ds)) Γ _ _ B (I.free hp) (Sb.refl B) (RzOk.new I hp ⟨xs, upd_same, r⟩) hk
theorem op_catL {rA rB : R2} {r1 r2 : Rz} {ds es : List D} (e1 : vw Γ r1 = some (.lst ds)) (e2 : vw Γ r2 = some (.lst es)) (hl : ds.length + es.length ≤ 100000) (hk : k (.n (.lst (ds ++ es))) Γ) : Op2 Z (orR rA (orR rB rCat)) r1 r2 Γ k := by
  refine .inr (.inr (op2_new e1 e2 (fun B H v1 v2 hs x1 x2 Q q => ?_) hk))
  obtain ⟨p, xs, rfl, h1, h2⟩ := x1.lst hs
  obtain ⟨b, zs, rfl, h3, h4⟩ := x2.lst hs
  exact ⟨p, b, xs, zs, rfl, rfl, h1, h3, by rw [h2.length, h4.length]; exact Nat.le_trans hl (by decide), fun a ha => q a _ ha (h2.append h4)⟩
theorem op_addS {rA rC : R2} {r1 r2 : Rz} {s t : Str} (e1 : vw Γ r1 = some (.str s)) (e2 : vw Γ r2 = some (.str t)) (hl : s.length + t.length ≤ 100000) (hk : k (.d (.str (s ++ t))) Γ) : Op2 Z (orR rA (orR rAddS2 rC)) r1 r2 Γ k := by
  refine .inr (.inl (op2_val e1 e2 (fun B H v1 v2 hs x1 x2 Q q => ?_) hk))
  exact ⟨s, t, x1.str, x2.str, Nat.le_trans hl (by decide), q _ (.str _)⟩
theorem op_repL {rA : R2} {r1 r2 : Rz} {d : D} {n : Nat} (e1 : vw Γ r1 = some (.lst [d])) (e2 : vw Γ r2 = some (.int (n : Int))) (hl : n ≤ 100000) (hk : k (.n (.lst (List.replicate n d))) Γ) : Op2 Z (orR rA rRep) r1 r2 Γ k := by
  refine .inr (op2_new e1 e2 (fun B H v1 v2 hs x1 x2 Q q => ?_) hk)
  obtain ⟨p, xs, rfl, h1, h2⟩ := x1.lst hs
  rw [x2.int]
  cases h2 with
  | @cons x d xs ds a b =>
    cases b
    refine ⟨p, n, [x], rfl, rfl, h1, by omega, by omega, by simp; exact Nat.le_trans hl (by decide), fun a' ha => q a' _ ha ?_⟩
    rw [Int.toNat_natCast]
    exact rs_rep a n
/-- a[lo:hi] of a list -/
theorem rs_cut {w : World} {B : Hp} {xs : List V} {ds : List D} (r : Rs w B xs ds) (lo hi : Option Int) : Rs w B (cutV xs lo hi) ((ds.drop (HT.sIx ds.length 0 lo)).take (HT.sIx ds.length ds.length hi - HT.sIx ds.length 0 lo)) := by
  unfold cutV
  rw [r.length]
  exact (r.drop _).take _
end
end Gm
namespace Gm
open PySem PySem.Spec PyProof.Rows L2

/-! ### data by values -/
mutual
def pyD : D → PyData
  | .non => .none
  | .bl b => .bool b
  | .int i => .int i
  | .str s => .str s
  | .lst ds => .list (pyDs ds)
  | .tup ds => .tuple (pyDs ds)
  | .dI _ => .dict []
  | .dN _ => .dict []
def pyDs : List D → List PyData
  | [] => []
  | d :: ds => pyD d :: pyDs ds
end
theorem pyDs_eq : ∀ ds : List D, pyDs ds = ds.map pyD
  | [] => rfl
  | d :: ds => by rw [pyDs, pyDs_eq ds]; rfl
mutual
theorem R.dp {K : PySem.W.Frag} {w : World} {B H : Hp} (hs : Sb B H) : ∀ {v : V} {d : D}, R w B v d → (pyD d).canLay0 = true → Dp K H v (pyD d)
  | _, _, .non, _ => .non
  | _, _, .bl b, _ => .bl b
  | _, _, .int i, _ => .int i
  | _, _, .str s, _ => .str s
  | _, _, .lst e r, h => .lst (SqL.of (hs _ _ e)) (Rs.dp hs r (by simpa [pyD, PyData.canLay0] using h))
  | _, _, .tup e r, h => .tup (SqT.of (hs _ _ e)) (Rs.dp hs r (by simpa [pyD, PyData.canLay0] using h))
  | _, _, .dI _ _ _ _, h => by simp [pyD, PyData.canLay0] at h
  | _, _, .dN _ _ _ _ _ _ _, h => by simp [pyD, PyData.canLay0] at h
theorem Rs.dp {K : PySem.W.Frag} {w : World} {B H : Hp} (hs : Sb B H) : ∀ {vs : List V} {ds : List D}, Rs w B vs ds → PyData.canLayAll0 (pyDs ds) = true → DpAll K H vs (pyDs ds)
  | _, _, .nil, _ => .nil
  | _, _, .cons a b, h => by
    simp only [pyDs, PyData.canLayAll0, Bool.and_eq_true] at h
    exact .cons (R.dp hs a h.1) (Rs.dp hs b h.2)
end
/-- plain data of depth n at most -/
structure Sh (n : Nat) (d : D) : Prop where
  can : (pyD d).canLay0 = true
  dep : (pyD d).depth ≤ n
theorem Sh.mono {n m : Nat} {d : D} (h : Sh n d) (k : n ≤ m) : Sh m d := ⟨h.can, Nat.le_trans h.dep k⟩
theorem sh_non {n : Nat} : Sh n .non := ⟨rfl, Nat.zero_le _⟩
theorem sh_int {n : Nat} (i : Int) : Sh n (.int i) := ⟨rfl, Nat.zero_le _⟩
theorem sh_bl {n : Nat} (i : Bool) : Sh n (.bl i) := ⟨rfl, Nat.zero_le _⟩
theorem sh_str {n : Nat} {s : Str} (h : ∀ c ∈ s.cps.toList, c < 0x110000) : Sh n (.str s) := by
  refine ⟨?_, Nat.zero_le _⟩
  simp only [pyD, PyData.canLay0, PyData.strOk, Array.all_eq_true]
  intro i hi
  exact decide_eq_true (h _ (by simp))
theorem sh_all {n : Nat} : ∀ {ds : List D}, (∀ d ∈ ds, Sh n d) → PyData.canLayAll0 (pyDs ds) = true ∧ PyData.depthAll (pyDs ds) ≤ n
  | [], _ => ⟨rfl, Nat.zero_le _⟩
  | d :: ds, h => by
    obtain ⟨h1, h2⟩ := sh_all (fun e he => h e (List.mem_cons_of_mem _ he))
    have h3 := h d List.mem_cons_self
    refine ⟨?_, ?_⟩
    · simp only [pyDs, PyData.canLayAll0, Bool.and_eq_true]
      exact ⟨h3.can, h1⟩
    · simp only [pyDs, PyData.depthAll]
      exact Nat.max_le.mpr ⟨h3.dep, h2⟩
theorem sh_lst {n : Nat} {ds : List D} (h : ∀ d ∈ ds, Sh n d) : Sh (n + 1) (.lst ds) := ⟨(sh_all h).1, Nat.succ_le_succ (sh_all h).2⟩
theorem sh_tup {n : Nat} {ds : List D} (h : ∀ d ∈ ds, Sh n d) : Sh (n + 1) (.tup ds) := ⟨(sh_all h).1, Nat.succ_le_succ (sh_all h).2⟩
theorem Sh.ok {n : Nat} {d : D} (h : Sh n d) (hn : n ≤ 64) : SeqAt.shaped (pyD d) = true := by
  unfold SeqAt.shaped
  rw [h.can, Bool.true_and]
  exact decide_eq_true (Nat.le_trans h.dep hn)
theorem Vw.dp {K : PySem.W.Frag} {w : World} {B H : Hp} (hs : Sb B H) {v : V} {d : D} (x : Vw w B H v d) (h : (pyD d).canLay0 = true) : Dp K H v (pyD d) := by
  rcases x with x | ⟨p, rfl, y⟩
  · exact x.dp hs h
  · cases d with
    | lst ds => obtain ⟨xs, e, r⟩ := y; exact .lst (SqL.of e) (Rs.dp hs r (by simpa [pyD, PyData.canLay0] using h))
    | tup ds => obtain ⟨xs, e, r⟩ := y; exact .tup (SqT.of e) (Rs.dp hs r (by simpa [pyD, PyData.canLay0] using h))
    | dI kvs => simp [pyD, PyData.canLay0] at h
    | dN kvs => simp [pyD, PyData.canLay0] at h
    | _ => exact False.elim y
/-- equal, as the program sees it -/
def eqD (a b : D) : Bool := PyData.eqv (pyD a) (pyD b)
theorem eqD_nil (ds : List D) : eqD (.lst ds) (.lst []) = ds.isEmpty := by
  cases ds with
  | nil => rfl
  | cons d ds => rfl
mutual
theorem eqD_ky : ∀ a b : D, hsD a = true → hsD b = true → eqD a b = decide (kyD a = kyD b)
  | .non, .non, _, _ => by simp [eqD, pyD, PyData.eqv, kyD]
  | .non, .bl _, _, _ => by simp [eqD, pyD, PyData.eqv, kyD]
  | .non, .int _, _, _ => by simp [eqD, pyD, PyData.eqv, kyD]
  | .non, .str _, _, _ => by simp [eqD, pyD, PyData.eqv, kyD]
  | .non, .tup _, _, _ => by simp [eqD, pyD, PyData.eqv, kyD]
  | .bl _, .non, _, _ => by simp [eqD, pyD, PyData.eqv, kyD]
  | .bl a, .bl b, _, _ => by cases a <;> cases b <;> simp [eqD, pyD, PyData.eqv, kyD]
  | .bl a, .int b, _, _ => by cases a <;> simp [eqD, pyD, PyData.eqv, kyD] <;> rfl
  | .bl _, .str _, _, _ => by simp [eqD, pyD, PyData.eqv, kyD]
  | .bl _, .tup _, _, _ => by simp [eqD, pyD, PyData.eqv, kyD]
  | .int _, .non, _, _ => by simp [eqD, pyD, PyData.eqv, kyD]
  | .int a, .bl b, _, _ => by cases b <;> simp [eqD, pyD, PyData.eqv, kyD] <;> rfl
  | .int a, .int b, _, _ => by simp [eqD, pyD, PyData.eqv, kyD]; rfl
  | .int _, .str _, _, _ => by simp [eqD, pyD, PyData.eqv, kyD]
  | .int _, .tup _, _, _ => by simp [eqD, pyD, PyData.eqv, kyD]
  | .str _, .non, _, _ => by simp [eqD, pyD, PyData.eqv, kyD]
  | .str _, .bl _, _, _ => by simp [eqD, pyD, PyData.eqv, kyD]
  | .str _, .int _, _, _ => by simp [eqD, pyD, PyData.eqv, kyD]
  | .str a, .str b, _, _ => by simp [eqD, pyD, PyData.eqv, kyD]; rfl
  | .str _, .tup _, _, _ => by simp [eqD, pyD, PyData.eqv, kyD]
  | .tup _, .non, _, _ => by simp [eqD, pyD, PyData.eqv, kyD]
  | .tup _, .bl _, _, _ => by simp [eqD, pyD, PyData.eqv, kyD]
  | .tup _, .int _, _, _ => by simp [eqD, pyD, PyData.eqv, kyD]
  | .tup _, .str _, _, _ => by simp [eqD, pyD, PyData.eqv, kyD]
  | .tup as, .tup bs, h1, h2 => by
    have h := eqDs_ky as bs h1 h2
    unfold eqD
    simp only [pyD, PyData.eqv, kyD, NestedKey.tup.injEq]
    exact h
  | .lst _, _, h, _ => by cases h
  | .dI _, _, h, _ => by cases h
  | .dN _, _, h, _ => by cases h
  | _, .lst _, _, h => by cases h
  | _, .dI _, _, h => by cases h
  | _, .dN _, _, h => by cases h
theorem eqDs_ky : ∀ as bs : List D, hsDs as = true → hsDs bs = true → PyData.eqvAll (pyDs as) (pyDs bs) = decide (kyDs as = kyDs bs)
  | [], [], _, _ => by simp [pyDs, PyData.eqvAll, kyDs]
  | [], _ :: _, _, _ => by simp [pyDs, PyData.eqvAll, kyDs]
  | _ :: _, [], _, _ => by simp [pyDs, PyData.eqvAll, kyDs]
  | a :: as, b :: bs, h1, h2 => by
    unfold hsDs at h1 h2
    rw [Bool.and_eq_true] at h1 h2
    have e1 := eqD_ky a b h1.1 h2.1
    have e2 := eqDs_ky as bs h1.2 h2.2
    unfold eqD at e1
    simp only [pyDs, PyData.eqvAll, kyDs, List.cons.injEq, e1, e2]
    simp
end

/-! ### sorted(list of pairs of texts) -/
def rSortP (K : PySem.W.Frag) : List V → Hp → VK → Prop := fun vs H Q => ∃ (l : Addr) (xs : List V) (bs : List (Str × Str)) (Rel : V → Str × Str → Prop), vs = [V.ref l] ∧ SqL K H l xs ∧ Paired Rel xs bs ∧ bs.length ≤ 4000 ∧ (∀ x b, Rel x b → ∃ t, x = V.ref t ∧ SqT K H t [.str b.1, .str b.2]) ∧
  ∀ p ys (bs' : List (Str × Str)), H p = none → bs'.Perm bs → Paired Rel ys bs' → Q (.ref p) (upd H p (.lst ys))
def encP (b : Str × Str) : PyData := .tuple [.str b.1, .str b.2]
def RP (Rel : V → Str × Str → Prop) (v : Value) (b : Str × Str) : Prop := ∃ x, RelV x v ∧ Rel x b
section
variable {X : Cx}
theorem each_rp {Rel : V → Str × Str → Prop} : ∀ {xs : List V} {us : List Value} {bs : List (Str × Str)}, Vals xs us → Paired Rel xs bs → PySem.W.EachIs (RP Rel) us bs
  | _, _, _, .nil, .nil => .nil
  | _, _, _, .cons r rs, .cons p ps => .cons ⟨_, r, p⟩ (each_rp rs ps)
theorem each_back {Rel : V → Str × Str → Prop} : ∀ {us : List Value} {bs : List (Str × Str)}, PySem.W.EachIs (RP Rel) us bs → ∃ ys : List V, Vals ys us ∧ Paired Rel ys bs
  | _, _, .nil => ⟨[], .nil, .nil⟩
  | _, _, .cons a b => by
    obtain ⟨ys, h1, h2⟩ := each_back b
    obtain ⟨x, r, h⟩ := a
    exact ⟨x :: ys, .cons r h1, .cons h h2⟩
theorem cr_sortedP (hu : X.A.units + 64 < cLine) : CallR X (.builtin "sorted") (rSortP X.K) := by
  intro pins s σ H vs us Q I r h
  obtain ⟨l, xs, bs, Rel, rfl, hl, hp, hn, hc, q⟩ := h
  obtain ⟨its, rv, pl, hz⟩ := I.list hl
  rw [Vals.ref1 r]
  have e := each_rp rv hp
  have hb : PySem.W.AllAlike (bs.map encP) := PySem.W.AllAlike.of fun b b' => by simp [encP, PySem.W.alike, PySem.W.alikeAll]
  have hk : PySem.W.Sortable (bs.map encP) := PySem.W.Sortable.tuples fun b => ⟨_, _, rfl⟩
  have er : PySem.W.EachIs (fun v b => ∃ as, Reads s.heap v (encP b) as) its bs := e.mono fun v b h => by
    obtain ⟨x, rx, h1⟩ := h
    obtain ⟨t, rfl, h2⟩ := hc x b h1
    cases rx
    exact Dp.reads I (encP b) (.ref t) _ (.tup h2 (.cons (.str _) (.cons (.str _) .nil))) rfl
  have hu2 : ∀ b, b ∈ bs → X.A.units + 2 + (encP b).depth < cLine := fun b _ => by
    have : (encP b).depth = 1 := by simp [encP, PyData.depth, PyData.depthAll]
    rw [this]
    omega
  refine PySem.W.sorted_data (enc := encP) pl.isList e er hb hk (by rw [sizeLine_eq]; omega) hu2 fun out ho eo => ?_
  obtain ⟨ys, h1, h2⟩ := each_back eo
  obtain ⟨ep, he'⟩ := PyProof.Rows.sortedAll_at s.heap its out.toArray
  have hlen : ys.length ≤ sizeLine := by rw [h1.length, ho, sizeLine_eq]; omega
  exact ⟨.ref _, upd H (s.heap.objs.size + 1) (.lst ys), I.laid (t' := s.toks) (fun _ _ => PyProof.Rows.sortedAll_old) (Nat.le_succ _) ⟨hlen, out, ep, h1, he'⟩, rfl, q _ ys _ (I.hok.fresh (Nat.le_succ _)) (List.mergeSort_perm _ _) h2⟩
def CMulX (i j : Int) : Prop := i.natAbs.log2 + j.natAbs.log2 < 100000000
theorem CMulX.ok {i j : Int} (h : CMulX i j) : IntMulOk i j := by
  have b : ∀ x : Int, Builtin.Int.intBits x ≤ x.natAbs.log2 + 1 := fun x => by
    unfold Builtin.Int.intBits
    split <;> omega
  have h1 := b i
  have h2 := b j
  have h3 : i.natAbs.log2 + j.natAbs.log2 < 100000000 := h
  have e : bitsLine = 134217728 := by decide
  intro z
  rw [Bool.and_eq_true] at z
  have z2 := z.2
  unfold Builtin.Int.intTooBig at z2
  have z3 := of_decide_eq_true z2
  rw [e] at z3
  omega
theorem op_mulX : OpR X (binaryOp .Mult) (rI CMulX fun i j => .int (i * j)) := opI fun _ _ _ _ _ _ _ hc q => PyProof.Rows.mul_int q hc.ok
end
section
variable {Z : Zn} {Γ : List Kd} {k : Rz → List Kd → Prop} {ta tb te td tk tv ti : TE} {kt : Bool → List Kd → Prop}
theorem op_eqP {K : PySem.W.Frag} {rA : R2} {r1 r2 : Rz} {d1 d2 : D} (e1 : vw Γ r1 = some d1) (e2 : vw Γ r2 = some d2) (s1 : Sh 60 d1) (s2 : Sh 60 d2) (h : k (.d (.bl (eqD d1 d2))) Γ) : Op2 Z (orR rA (rEqD K)) r1 r2 Γ k :=
  .inr (op2_val e1 e2 (fun B H v1 v2 hs x1 x2 Q q => ⟨_, _, x1.dp hs s1.can, x2.dp hs s2.can, s1.ok (by decide), s2.ok (by decide), q _ (.bl _)⟩) h)
theorem op_neP {K : PySem.W.Frag} {rA : R2} {r1 r2 : Rz} {d1 d2 : D} (e1 : vw Γ r1 = some d1) (e2 : vw Γ r2 = some d2) (s1 : Sh 60 d1) (s2 : Sh 60 d2) (h : k (.d (.bl (!eqD d1 d2))) Γ) : Op2 Z (orR rA (rNeD K)) r1 r2 Γ k :=
  .inr (op2_val e1 e2 (fun B H v1 v2 hs x1 x2 Q q => ⟨_, _, x1.dp hs s1.can, x2.dp hs s2.can, s1.ok (by decide), s2.ok (by decide), q _ (.bl _)⟩) h)
theorem op_inP {K : PySem.W.Frag} {r1 r2 : Rz} {d1 : D} {ds : List D} (e1 : vw Γ r1 = some d1) (e2 : vw Γ r2 = some (.lst ds)) (s1 : Sh 60 d1) (s2 : ∀ d ∈ ds, Sh 59 d) (h : k (.d (.bl (ds.any fun z => eqD z d1))) Γ) : Op2 Z (rInD K) r1 r2 Γ k :=
  op2_val e1 e2 (fun B H v1 v2 hs x1 x2 Q q => ⟨_, pyDs ds, x1.dp hs s1.can, x2.dp hs (sh_lst s2).can, s1.ok (by decide), (sh_lst s2).ok (by decide), by
    have e : ((pyDs ds).any fun z => PyData.eqv z (pyD d1)) = ds.any fun z => eqD z d1 := by rw [pyDs_eq, List.any_map]; rfl
    rw [e]
    exact q _ (.bl _)⟩) h
def pairD (b : Str × Str) : D := .tup [.str b.1, .str b.2]
theorem pr_fwd {w : World} {B : Hp} : ∀ {xs : List V} {bs : List (Str × Str)}, Rs w B xs (bs.map pairD) → Paired (fun x b => R w B x (pairD b)) xs bs
  | _, [], .nil => .nil
  | _, b :: bs, .cons a c => .cons a (pr_fwd c)
theorem pr_bwd {w : World} {B : Hp} : ∀ {xs : List V} {bs : List (Str × Str)}, Paired (fun x b => R w B x (pairD b)) xs bs → Rs w B xs (bs.map pairD)
  | _, _, .nil => .nil
  | _, _, .cons a c => .cons a (pr_bwd c)
theorem cb_sortedP {K : PySem.W.Frag} {r1 : Rz} {bs : List (Str × Str)} (e1 : vw Γ r1 = some (.lst (bs.map pairD))) (hl : bs.length ≤ 4000)
    (h : ∀ bs' : List (Str × Str), bs'.Perm bs → k (.n (.lst (bs'.map pairD))) Γ) : Cb Z (rSortP K) [r1] Γ k := fun σ H B vs I x Q q => by
  obtain ⟨v, rfl, y⟩ := x.one
  obtain ⟨p, xs, rfl, hp, r⟩ := (vw_ok I (y Γ H) e1).lst I.sub
  refine ⟨p, xs, bs, _, rfl, SqL.of hp, pr_fwd r, hl, fun x b hx => ?_, fun a ys bs' ha hpm pr => ?_⟩
  · cases hx with
    | tup e r =>
      have e' := Rs.strs (ns := [b.1, b.2]) r
      rw [e'] at e
      exact ⟨_, rfl, SqT.of (I.sub _ _ e)⟩
  · exact q (.n (.lst (bs'.map pairD))) Γ _ _ B (I.free ha) (Sb.refl B) (RzOk.new I ha ⟨ys, upd_same, pr_bwd pr⟩) (h bs' hpm)

/-! ### slices -/
def EvO (Z : Zn) (t : TO) (Γ : List Kd) (k : Option Int → List Kd → Prop) : Prop :=
  ∀ σ H B, EnvOk Z Γ σ H B → ∀ Q : Option Int → Hp → Prop, (∀ o Γ' H' B', EnvOk Z Γ' σ H' B' → Sb B B' → k o Γ' → Q o H') → t σ H Q
theorem eo_none {ko : Option Int → List Kd → Prop} (h : ko none Γ) : EvO Z tNoPart Γ ko := fun σ H B I Q q => q none Γ H B I (Sb.refl B) h
theorem eo_some {ko : Option Int → List Kd → Prop} (h : Ev Z ta Γ fun r Γ1 => ∃ i, r.fz = .d (.int i) ∧ ko (some i) Γ1) : EvO Z (tPart ta) Γ ko := fun σ H B I Q q =>
  (ev_fz (k := fun r Γ1 => ∃ i, r = .d (.int i) ∧ ko (some i) Γ1) h) σ H B I _ fun r Γ1 v H1 B1 I1 s1 x1 ⟨i, e, kk⟩ => by
    subst e
    cases x1
    exact ⟨i, rfl, q _ Γ1 H1 B1 I1 s1 kk⟩
def cutD (ds : List D) (lo hi : Option Int) : List D := (ds.drop (HT.sIx ds.length 0 lo)).take (HT.sIx ds.length ds.length hi - HT.sIx ds.length 0 lo)
theorem ev_slice {K : PySem.W.Frag} {tl th : TO} (h : Ev Z ta Γ fun r Γ1 => ∃ ds, r.fz = .d (.lst ds) ∧ EvO Z tl Γ1 fun lo Γ2 => EvO Z th Γ2 fun hi Γ3 => k (.n (.lst (cutD ds lo hi))) Γ3) : Ev Z (tSl (rSlL K) ta tl th) Γ k := fun σ H B I Q q =>
  (ev_fz (k := fun r Γ1 => ∃ ds, r = .d (.lst ds) ∧ EvO Z tl Γ1 fun lo Γ2 => EvO Z th Γ2 fun hi Γ3 => k (.n (.lst (cutD ds lo hi))) Γ3) h) σ H B I _ fun r Γ1 v H1 B1 I1 s1 x1 ⟨ds, e, h1⟩ => by
    subst e
    refine h1 σ H1 B1 I1 _ fun lo Γ2 H2 B2 I2 s2 h2 => h2 σ H2 B2 I2 _ fun hi Γ3 H3 B3 I3 s3 kk => ?_
    obtain ⟨p, rfl, xs, hp, r⟩ := R.ob (R.mono (s2.trans s3) x1) rfl
    exact ⟨p, xs, rfl, SqL.of (I3.sub _ _ hp), fun a ha => q (.n (.lst (cutD ds lo hi))) Γ3 _ _ B3 (I3.free ha) ((s1.trans s2).trans s3) (RzOk.new I3 ha ⟨_, upd_same, rs_cut r lo hi⟩) kk⟩

/-! ### built-ins of lists -/
theorem cb_any {K : PySem.W.Frag} {r1 : Rz} {bs : List Bool} (e1 : vw Γ r1 = some (.lst (bs.map D.bl))) (h : k (.d (.bl (bs.any id))) Γ) : Cb Z (rAny K) [r1] Γ k :=
  cb_val e1 (fun B H v hs x Q q => by
    obtain ⟨p, xs, rfl, hp, r⟩ := x.lst hs
    have e := r.bls
    subst e
    exact ⟨p, bs, rfl, SqL.of hp, q _ (.bl _)⟩) h
theorem cb_all {K : PySem.W.Frag} {r1 : Rz} {bs : List Bool} (e1 : vw Γ r1 = some (.lst (bs.map D.bl))) (h : k (.d (.bl (bs.all id))) Γ) : Cb Z (rAll K) [r1] Γ k :=
  cb_val e1 (fun B H v hs x Q q => by
    obtain ⟨p, xs, rfl, hp, r⟩ := x.lst hs
    have e := r.bls
    subst e
    exact ⟨p, bs, rfl, SqL.of hp, q _ (.bl _)⟩) h
theorem cb_listOf {K : PySem.W.Frag} {r1 : Rz} {ds : List D} (e1 : vw Γ r1 = some (.lst ds) ∨ vw Γ r1 = some (.tup ds)) (h : k (.n (.lst ds)) Γ) : Cb Z (fun xs H Q => ∃ p ys, xs = [.ref p] ∧ (SqL K H p ys ∨ SqT K H p ys) ∧ ∀ l, H l = none → Q (.ref l) (upd H l (.lst ys))) [r1] Γ k := by
  rcases e1 with e1 | e1
  · exact cb_new e1 (fun B H v hs x Q q => by
      obtain ⟨p, xs, rfl, hp, r⟩ := x.lst hs
      exact ⟨p, xs, rfl, .inl (SqL.of hp), fun l hl => q l xs hl r⟩) h
  · exact cb_new e1 (fun B H v hs x Q q => by
      obtain ⟨p, xs, rfl, hp, r⟩ := x.tup hs
      exact ⟨p, xs, rfl, .inr (SqT.of hp), fun l hl => q l xs hl r⟩) h
/-- tuple(list) -/
theorem ev_tupOf {K : PySem.W.Frag} (h : Ev Z ta Γ fun r Γ1 => ∃ ds, vw Γ1 r.fz = some (.lst ds) ∧ k (.d (.tup ds)) Γ1) : Ev Z (tThen ta (kTup K)) Γ k := fun σ H B I Q q =>
  (ev_fz (k := fun r Γ1 => ∃ ds, vw Γ1 r = some (.lst ds) ∧ k (.d (.tup ds)) Γ1) h) σ H B I _ fun r Γ1 v H1 B1 I1 s1 x1 ⟨ds, e, kk⟩ => by
    obtain ⟨p, xs, rfl, hp, r⟩ := (vw_ok I1 x1 e).lst I1.sub
    refine .inl ⟨p, xs, rfl, SqL.of hp, fun a ha => ?_⟩
    have hs : Sb B1 (upd B1 a (.tup xs)) := fun b u z => by rw [upd_ne (ne_of_none (I1.sub b u z) ha)]; exact z
    exact q (.d (.tup ds)) Γ1 _ _ _ (I1.new ha (fun _ z => nomatch z)) (s1.trans hs) (R.tup upd_same (r.mono hs)) kk
theorem mt_countD {s t : Str} (hk : k (.d (.int (Txt.count s t))) Γ) : Mt Z (fun x xs H Q => ∃ a b, x = .str a ∧ xs = [.str b] ∧ Q (.int (Txt.count a b)) H) (.d (.str s)) [.d (.str t)] Γ k := fun σ H B v vs I x0 x1 Q q => by
  cases x0
  obtain ⟨v1, rfl, y⟩ := x1.one
  have y' := y Γ H
  cases y'
  exact ⟨s, t, rfl, rfl, q (.d (.int _)) Γ _ H B I (Sb.refl B) (.int _) hk⟩
/-- xs or e, xs a list -/
theorem ev_orL {K : PySem.W.Frag} (h : Ev Z ta Γ fun r Γ1 => ∃ ds, r.fz = .d (.lst ds) ∧ (ds ≠ [] → k (.d (.lst ds)) Γ1) ∧ (ds = [] → Ev Z tb Γ1 k)) : Ev Z (tOrT K ta tb) Γ k := fun σ H B I Q q =>
  (ev_fz (k := fun r Γ1 => ∃ ds, r = .d (.lst ds) ∧ (ds ≠ [] → k (.d (.lst ds)) Γ1) ∧ (ds = [] → Ev Z tb Γ1 k)) h) σ H B I _ fun r Γ1 v H1 B1 I1 s1 x1 ⟨ds, e, k1, k2⟩ => by
    subst e
    obtain ⟨p, rfl, xs, hp, r⟩ := R.ob x1 rfl
    refine ⟨!xs.isEmpty, .inl ⟨xs, SqL.of (I1.sub _ _ hp), rfl⟩, ?_⟩
    cases r with
    | nil => exact k2 rfl σ H1 B1 I1 Q fun r Γ2 v H2 B2 I2 s2 x2 kk => q r Γ2 v H2 B2 I2 (s1.trans s2) x2 kk
    | cons a b => exact q (.d (.lst _)) Γ1 _ H1 B1 I1 s1 (.lst hp (.cons a b)) (k1 (fun z => nomatch z))
/-- xs[n] += e, of a list of one's own -/
theorem st_augL {E : Eg} {i : Nat} (hg : ∃ f d, Γ[i]? = some (.ob f d)) (h : Ev Z ti Γ fun r1 Γ1 => ∃ (n : Nat) (f : Bool) (ds : List D) (a : Int), r1.fz = .d (.int (n : Int)) ∧ Γ1[i]? = some (.ob f (.lst ds)) ∧ ds[n]? = some (.int a) ∧ Ev Z te Γ1 fun r2 Γ2 => ∃ b : Int, vw Γ2 r2.fz = some (.int b) ∧ Γ2[i]? = some (.ob f (.lst ds)) ∧ E.nx (Γ2.set i (.ob f (.lst (ds.set n (.int (a + b))))))) : St Z (tAugS (tVar i) ti te rGetL (ipI fun i j => i + j) rSetL) Γ E := fun σ H B I D s => by
  have h' : Ev Z ti Γ fun r1 Γ1 => ∃ (n : Nat) (f : Bool) (ds : List _) (a : Int), r1 = .d (.int (n : Int)) ∧ Γ1[i]? = some (.ob f (.lst ds)) ∧ ds[n]? = some (.int a) ∧ Ev Z te Γ1 fun r2 Γ2 => ∃ b : Int, vw Γ2 r2 = some (.int b) ∧ Γ2[i]? = some (.ob f (.lst ds)) ∧ E.nx (Γ2.set i (.ob f (.lst (ds.set n (.int (a + b)))))) :=
    ev_fz (h.imp fun r1 Γ1 ⟨n, f, ds, a, e, g, hn, h1⟩ => ⟨n, f, ds, a, e, g, hn, ev_fz h1⟩)
  -- the slot's value
  have base : ∀ v, σ[i]? = some (some v) → ti σ H fun i1 H2 => rGetL v i1 H2 fun x H3 => te σ H3 fun y H4 => (ipI fun i j => i + j) x y H4 fun z H5 => rSetL v i1 z H5 fun H6 => D.nx σ H6 := by
    intro v hσ
    refine h' σ H B I _ fun r1 Γ1 v1 H1 B1 I1 s1 x1 ⟨n, f, ds, a, e, g, hn, h1⟩ => ?_
    subst e
    cases x1
    obtain ⟨p, xs, rfl, hp, r⟩ := slot_lst I1 g hσ
    obtain ⟨u, hu, ru⟩ := r.get' hn
    cases ru
    refine ⟨p, xs, n, _, rfl, rfl, hp, hu, h1 σ H1 B1 I1 _ fun r2 Γ2 v2 H2 B2 I2 s2 x2 ⟨b, e2, g2, kk⟩ => ?_⟩
    rw [(vw_ok I2 x2 e2).int]
    obtain ⟨p2, xs2, ep, hp2, r2'⟩ := slot_lst I2 g2 hσ
    cases ep
    refine ⟨a, b, rfl, rfl, p, xs2, n, n, rfl, rfl, hp2, ?_, ?_⟩
    · have hl : n < xs2.length := by rw [r2'.length]; exact (List.getElem?_eq_some_iff.mp hn).1
      unfold ixN
      rw [if_pos (Int.natCast_nonneg n), if_pos (by omega), Int.toNat_natCast]
    · exact s.nx σ _ B2 _ (I2.write (d' := .lst (ds.set n (.int (a + b)))) g2 hσ ⟨_, upd_same, Rs.set (.int _) n r2'⟩) (s1.trans s2) kk
  obtain ⟨f, d, hg⟩ := hg
  obtain ⟨v, hσ, _⟩ := I.slot hg (fun z => nomatch z)
  exact ⟨v, hσ, base v hσ⟩
end
end Gm
namespace Gm
open PySem PySem.Spec PyProof.Rows L2
/-- max(ns, default=d) -/
def rMaxKw (K : PySem.W.Frag) : List V → List V → Hp → VK → Prop := fun vs zs H Q => ∃ (l : Addr) (ns : List Int) (d : Int), vs = [V.ref l] ∧ zs = [.int d] ∧ SqL K H l (ns.map V.int) ∧ (match ns with
  | [] => Q (.int d) H
  | n :: r => Q (.int (r.foldl max n)) H)
theorem readsAll_ints {h : Heap} : ∀ {us : List Value} {ns : List Int}, IntsAre us ns → ∃ as, ReadsAll h us (ns.map PyData.int) as
  | _, _, .nil => ⟨_, .nil⟩
  | _, _, .cons n t r => by
    obtain ⟨as, q⟩ := readsAll_ints (h := h) r
    exact ⟨_, .cons (.int n t) q⟩
section
variable {X : Cx}
theorem crk_max (hu : X.A.units + 64 < cLine) (hc : X.calm = true) : CallRK X (.builtin "max") ["default"] (rMaxKw X.K) := by
  intro pins s σ H xs zs us ws Q I rx rz h
  obtain ⟨l, ns, d, rfl, rfl, hl, q⟩ := h
  obtain ⟨its, rv, pl, hz⟩ := I.list hl
  rw [Vals.ref1 rx]
  obtain ⟨u, rfl, td, rfl⟩ := Vals.one rz
  obtain ⟨as, ra⟩ := readsAll_ints (h := s.heap) rv.ints
  have hd : PyData.depthAll (ns.map PyData.int) = 0 := PySem.W.depth_ints ns
  have hal : PySem.W.AlikeAll (ns.map PyData.int) := ⟨fun x hx y hy => by
    obtain ⟨n, _, rfl⟩ := List.mem_map.mp hx
    obtain ⟨m, _, rfl⟩ := List.mem_map.mp hy
    simp [PySem.W.alike], fun x hx => by
    obtain ⟨n, _, rfl⟩ := List.mem_map.mp hx
    exact fun z => nomatch z⟩
  refine PySem.W.max_list_default (I.ok.hd hc) pl.isList (by simpa using ra) hal (by rw [hd]; omega) (fun e h' tk k => ?_) fun y ys i v h' tk bs e hv r k => ?_
  · cases ns with
    | nil => exact ⟨.int d, H, I.kept k, ⟨td, rfl⟩, q⟩
    | cons n r => cases e
  · cases ns with
    | nil => cases e
    | cons n r' =>
      rw [List.map_cons] at e
      injection e with e1 e2
      subst e1 e2
      rw [PySem.W.maxD_ints] at r
      have hv2 : ∃ t, v = .int (r'.foldl max n) t := by
        cases r
        exact ⟨_, rfl⟩
      obtain ⟨t, rfl⟩ := hv2
      exact ⟨.int _, H, I.kept k, ⟨t, rfl⟩, q⟩
theorem args_sum_start (a v : Value) : argsOk "sum" ⟨[a], [(Str.ofString "start", v)]⟩ := by unfold argsOk; kernel_rfl
end
section
variable {prog : Program} {w : World} {A : Around} {E : Value → Shared → Prop} {s : Shared}
/-- sum(x, start=0) -/
theorem sum_start0 {x : Value} {tz : Tok} {Q : Value → Shared → Prop}
    (h : wpAny (model prog w) A.in1 (pyIter x) (fun it s2 => ∃ I fp wr n P St val, it = .ref I ∧ Walks prog w A.in1 I fp wr n P St ∧ St 0 s2.heap ∧ (∀ b ∈ fp, b < s2.heap.objs.size) ∧ (∀ i v, P i v → ∃ t, v = .int (val i) t) ∧
      ∀ h' tk t', (∀ b o, b ∉ wr → s2.heap.get? b = some o → h'.get? b = some o) → Q (.int (preSum val n) t') { s2 with heap := h', toks := tk }) E s) :
    wpAny (model prog w) A (call (.builtin "sum") [x] [(Str.ofString "start", .int 0 tz)]) Q E s := by
  refine PyProof.Rows.kmk_tree PySem.F.kind_sum PySem.F.plain_sum PySem.F.entry_sum (args_sum_start _ _) ?_
  unfold Builtin.«sum»
  simp only [List.length_cons, List.length_nil]
  rw [if_neg (by decide)]
  refine wpAny_bind (wpAny_of_eq (show Builtin.Builtins.bindParams "sum" ["start"] 0 ⟨[], [(Str.ofString "start", .int 0 tz)]⟩ = pure [some (.int 0 tz)] from rfl) ?_)
  refine wpAny_bind (wpAny_mono h (fun it s2 h2 => ?_) fun _ _ e => e)
  obtain ⟨I, fp, wr, n, P, St, val, rfl, W, hst, hfp, hval, hQ⟩ := h2
  refine wpAny_bind (wpAny_rule ?_)
  refine wpAny_bind (wpAny_mkInt ?_)
  refine wpAny_bind (wpAny_pure ?_)
  simp only [List.forIn_cons, List.forIn_nil]
  refine wpAny_bind (wpAny_bind (wpAny_bind (PySem.wpAny_isInstance (T := "int") (b := false) (typeIs_int _ _ _) PySem.sub_int_str ?_)))
  simp only [Bool.false_eq_true, if_false]
  refine wpAny_pure (wpAny_bind (wpAny_bind (PySem.wpAny_isInstance (T := "int") (b := false) (typeIs_int _ _ _) PySem.sub_int_bytes ?_)))
  simp only [Bool.false_eq_true, if_false]
  refine wpAny_pure (wpAny_bind (wpAny_bind (PySem.wpAny_isInstance (T := "int") (b := false) (typeIs_int _ _ _) PySem.sub_int_bytearray ?_)))
  simp only [Bool.false_eq_true, if_false]
  refine wpAny_pure (wpAny_pure ?_)
  refine wpAny_bind (wpAny_newObj_type ?_)
  have hSf : s2.heap.objs.size ∉ fp := fun hm => Nat.lt_irrefl _ (hfp _ hm)
  refine wpAny_pure ⟨plainId_quiet PySem.F.plain_sum_loop _, PySem.codeAny_sum_loopG W val hval s2.heap.objs.size hSf n 0 _ _ 0 0 (Or.inl rfl) rfl (Nat.zero_le _)
    (W.frame _ _ _ hst fun b _ o e => Heap.get?_push_of_some _ e) (Heap.get?_push_size _ rfl) fun h' tk t' hk => ?_⟩
  exact hQ h' tk t' fun b o hbw e => hk b o hbw (Nat.ne_of_lt (Heap.lt_size e)) (Heap.get?_push_of_some _ e)
theorem sum_raw0 {l : Addr} {its : List Value} {ns : List Int} {tz : Tok} {Q : Value → Shared → Prop} (hh : A.handled = none) (hl : s.heap.IsList l its.toArray) (hi : IntsAre its ns)
    (h : ∀ h' tk t', (∀ b o, s.heap.get? b = some o → h'.get? b = some o) → Q (.int ns.sum t') { s with heap := h', toks := tk }) : wpAny (model prog w) A (call (.builtin "sum") [.ref l] [(Str.ofString "start", .int 0 tz)]) Q E s := by
  obtain ⟨xs, e⟩ := hi.allInts.items
  have hn : numsOf (intItems xs).toList = ns := by rw [← e]; exact hi.numsOf
  rw [nums_intItems] at hn
  rw [e] at hl
  refine sum_start0 (iter_intList hl fun s2 e st hfp hlI => ?_)
  subst e
  refine ⟨_, _, _, _, _, _, numAt xs, rfl, Walks.list (A := A.in1) hh _ l hlI (intItems xs), st, hfp, (fun _ _ => intItems_at), fun h' tk t' hk => ?_⟩
  have q := h h' tk t' (PySem.old_kept hk)
  have e3 : preSum (numAt xs) (intItems xs).size = ns.sum := by
    have e4 : (intItems xs).size = xs.size := by simp [intItems]
    rw [e4, preSum_eq, List.take_of_length_le (by simp), hn]
  rw [e3]
  exact q
end
def rSumKw (K : PySem.W.Frag) : List V → List V → Hp → VK → Prop := fun vs zs H Q => ∃ (l : Addr) (ns : List Int), vs = [V.ref l] ∧ zs = [.int 0] ∧ SqL K H l (ns.map V.int) ∧ Q (.int ns.sum) H
section
variable {X : Cx}
theorem crk_sum (hc : X.calm = true) : CallRK X (.builtin "sum") ["start"] (rSumKw X.K) := by
  intro pins s σ H xs zs us ws Q I rx rz h
  obtain ⟨l, ns, rfl, rfl, hl, q⟩ := h
  obtain ⟨its, rv, pl, hz⟩ := I.list hl
  rw [Vals.ref1 rx]
  obtain ⟨u, rfl, td, rfl⟩ := Vals.one rz
  exact sum_raw0 (I.ok.hd hc) pl.isList rv.ints fun h' tk t' k => ⟨.int ns.sum, H, I.kept k, ⟨t', rfl⟩, q⟩
end
section
variable {Z : Zn} {Γ : List Kd} {k : Rz → List Kd → Prop} {ta tk : TA}
theorem ev_kw {r : List V → List V → Hp → VK → Prop} {r1 : Rz} {d : Int} (h : EvA Z ta Γ fun rs Γ1 => EvA Z tk Γ1 fun zs Γ2 => ∃ (r1 : Rz) (z d : D) , rs = [r1] ∧ zs = [.d z] ∧ (∃ d1, vw Γ2 r1 = some d1 ∧ ∀ B H v1 v2, Sb B H → Vw Z.w B H v1 d1 → R Z.w B v2 z → ∀ Q : VK, (∀ v, R Z.w B v d → Q v H) → r [v1] [v2] H Q) ∧ k (.d d) Γ2) : Ev Z (tCKw r ta tk) Γ k := fun σ H B I Q q =>
  h σ H B I _ fun rs Γ1 vs H1 B1 I1 s1 x1 h1 => h1 σ H1 B1 I1 _ fun zs Γ2 vz H2 B2 I2 s2 x2 ⟨r1, z, d, e1, e2, ⟨d1, e3, h2⟩, kk⟩ => by
    subst e1 e2
    obtain ⟨v1, rfl, y1⟩ := (x1.mono s2).one
    obtain ⟨v2, rfl, y2⟩ := x2.one
    exact h2 B2 H2 v1 v2 I2.sub (vw_ok I2 (y1 Γ2 H2) e3) (y2 Γ2 H2) Q fun v x => q (.d d) Γ2 v H2 B2 I2 (s1.trans s2) x kk
theorem kw_max {K : PySem.W.Frag} {w : World} {ns : List Int} {d m : Int} (hm : (match ns with | [] => d | n :: r => r.foldl max n) = m) : ∀ B H v1 v2, Sb B H → Vw w B H v1 (.lst (ns.map D.int)) → R w B v2 (.int d) → ∀ Q : VK, (∀ v, R w B v (.int m) → Q v H) → rMaxKw K [v1] [v2] H Q := fun B H v1 v2 hs x y Q q => by
  obtain ⟨p, xs, rfl, hp, r⟩ := x.lst hs
  have e := r.ints
  subst e
  cases y
  refine ⟨p, ns, d, rfl, rfl, SqL.of hp, ?_⟩
  cases ns with
  | nil => subst hm; exact q _ (.int _)
  | cons n r => subst hm; exact q _ (.int _)
theorem kw_sum {K : PySem.W.Frag} {w : World} {ns : List Int} : ∀ B H v1 v2, Sb B H → Vw w B H v1 (.lst (ns.map D.int)) → R w B v2 (.int 0) → ∀ Q : VK, (∀ v, R w B v (.int ns.sum) → Q v H) → rSumKw K [v1] [v2] H Q := fun B H v1 v2 hs x y Q q => by
  obtain ⟨p, xs, rfl, hp, r⟩ := x.lst hs
  have e := r.ints
  subst e
  cases y
  exact ⟨p, ns, rfl, rfl, SqL.of hp, q _ (.int _)⟩
end
end Gm
namespace Gm
open PySem PySem.Spec PyProof.Rows L2
theorem tk_t {b : Bool} {P Q : Prop} (h : b = true) (p : P) : (b = true → P) ∧ (b = false → Q) := ⟨fun _ => p, fun z => by rw [h] at z; cases z⟩
theorem tk_f {b : Bool} {P Q : Prop} (h : b = false) (q : Q) : (b = true → P) ∧ (b = false → Q) := ⟨fun z => (by rw [h] at z; cases z), fun _ => q⟩
theorem tk_b {b : Bool} {P Q : Prop} (p : b = true → P) (q : b = false → Q) : (b = true → P) ∧ (b = false → Q) := ⟨p, q⟩
def unD : Rz → Option D
  | .d d => some d
  | _ => none
def unDs : List Rz → Option (List D)
  | [] => some []
  | r :: rs => match unD r, unDs rs with
    | some d, some ds => some (d :: ds)
    | _, _ => none
theorem unDs_map : ∀ {rs : List Rz} {ds : List D}, unDs rs = some ds → rs = ds.map Rz.d
  | [], ds, h => by cases h; rfl
  | r :: rs, ds, h => by
    unfold unDs at h
    cases h1 : unD r with
    | none => simp only [h1] at h; cases h
    | some d =>
      cases h2 : unDs rs with
      | none => simp only [h1, h2] at h; cases h
      | some es =>
        simp only [h1, h2] at h
        cases h
        have e := unDs_map h2
        cases r <;> first | (cases h1; rw [e]; rfl) | cases h1
section
variable {Z : Zn} {Γ : List Kd} {k : Rz → List Kd → Prop} {ta : TA} {te : TE}
theorem ev_tupG (h : EvA Z ta Γ fun rs Γ1 => ∃ ds, unDs rs = some ds ∧ ds.length ≤ 100000 ∧ k (.d (.tup ds)) Γ1) : Ev Z (tTup ta) Γ k :=
  ev_tup fun σ H B I Q q => h σ H B I Q fun rs Γ' vs H' B' I' s x ⟨ds, e, kk⟩ => q rs Γ' vs H' B' I' s x ⟨ds, unDs_map e, kk⟩
theorem ev_lstG (h : EvA Z ta Γ fun rs Γ1 => ∃ ds, unDs rs = some ds ∧ ds.length ≤ 100000 ∧ k (.n (.lst ds)) Γ1) : Ev Z (tLst ta) Γ k :=
  ev_lst fun σ H B I Q q => h σ H B I Q fun rs Γ' vs H' B' I' s x ⟨ds, e, kk⟩ => q rs Γ' vs H' B' I' s x ⟨ds, unDs_map e, kk⟩
theorem ev_callG {w : World} {T : List NdefX.NTab} {pre : List D → Prop} {post : List D → D → Prop} {dvs : List V} {dds : List D} {E : XK} (hd : ∀ B, Rs w B dvs dds) (hw : Z.w = w) (hT : Z.T = T)
    (h : EvA Z ta Γ fun rs Γ1 => ∃ ds, unDs rs = some ds ∧ pre (ds ++ dds) ∧ ∀ d, post (ds ++ dds) d → k (.d d) Γ1) : Ev Z (tCall (spR w T pre post) dvs E ta) Γ k :=
  ev_call hd hw hT fun σ H B I Q q => h σ H B I Q fun rs Γ' vs H' B' I' s x ⟨ds, e, kk⟩ => q rs Γ' vs H' B' I' s x ⟨ds, unDs_map e, kk⟩
/-- a result that need not be named -/
theorem ev_cbG {r : List V → Hp → VK → Prop} (h : EvA Z ta Γ fun rs Γ1 => Cb Z r rs Γ1 k) : Ev Z (tCB r ta) Γ k := ev_cb h
theorem et_bl {tt : TT} {kb : Bool → List Kd → Prop} (h : Ev Z te Γ fun r Γ1 => ∃ b, unD r = some (.bl b) ∧ kb b Γ1) : EvT Z (tTest te) Γ kb := et_test (h.imp fun r Γ1 ⟨b, e, kk⟩ => ⟨b, by cases r <;> cases e; rfl, kk⟩)
end
/-! ### isinstance, by its type -/
def isTy : D → String → Bool
  | .str _, T => T == "str"
  | .int _, T => T == "int"
  | .bl _, T => T == "bool" || T == "int"
  | .lst _, T => T == "list"
  | .tup _, T => T == "tuple"
  | _, _ => false
theorem kit_is : ∀ d : D, ∀ T ∈ ["str", "int", "bool", "list", "tuple"], kitB (tyN d) T = some (isTy d T) := by
  intro d T hT
  have h : ∀ T ∈ ["str", "int", "bool", "list", "tuple"], kitB "NoneType" T = some false ∧ kitB "bool" T = some (T == "bool" || T == "int") ∧ kitB "int" T = some (T == "int") ∧ kitB "str" T = some (T == "str") ∧ kitB "list" T = some (T == "list") ∧ kitB "tuple" T = some (T == "tuple") ∧ kitB "dict" T = some false := by decide +kernel
  obtain ⟨h1, h2, h3, h4, h5, h6, h7⟩ := h T hT
  cases d <;> assumption
def notN : D → Bool
  | .dN _ => false
  | _ => true
theorem cb_isT {Z : Zn} {Γ : List Kd} {k : Rz → List Kd → Prop} {K : PySem.W.Frag} {r1 r2 : Rz} {d : D} {T : String} (e1 : vw Γ r1 = some d) (e2 : r2 = .x (.ty T)) (hn : notN d = true) (hT : ["str", "int", "bool", "list", "tuple"].contains T = true) (hk : k (.d (.bl (isTy d T))) Γ) : Cb Z (rIsi K) [r1, r2] Γ k := by
  subst e2
  exact cb_isi e1 (fun kvs z => by subst z; cases hn) (kit_is d T (by simpa using hT)) hk
theorem cb_lenG {Z : Zn} {Γ : List Kd} {k : Rz → List Kd → Prop} {K : PySem.W.Frag} {r1 : Rz} {d : D} {n : Nat} (e1 : vw Γ r1 = some d) (hn : lenD d = some n) (h : n ≤ 100000 ∧ k (.d (.int n)) Γ) : Cb Z (fun xs H Q => ∃ x n, xs = [x] ∧ LenV K x H n ∧ Q (.int n) H) [r1] Γ k := cb_len e1 hn h.1 h.2
abbrev FnP (K : PySem.W.Frag) (x qual : Str) (st : Stmt) (dvs : List V) (f : Addr) (fd : FuncData) : Prop := FunD K x qual (defArgs st) (defBody st) (defScope st) dvs [] f fd
abbrev KnR (P : Program) (w : World) (K : PySem.W.Frag) (mg : Str → Option Value) (base : Heap) (T : List NdefX.NTab) (x : Str) (k : Nat) (dvs : List V) (pre : List D → Prop) (post : List D → D → Prop) : Prop := Kn P w K mg base x k dvs (spR w T pre post)
/-! ### machines -/
abbrev isL (c : Nat) : Prop := 97 ≤ c ∧ c < 123
theorem isL_in {c : Nat} (h : isL c) : c ∈ (Str.ofString "abcdefghijklmnopqrstuvwxyz").cps.toList := by
  obtain ⟨h1, h2⟩ := h
  have h3 : ∀ c, c < 123 → 97 ≤ c → c ∈ (Str.ofString "abcdefghijklmnopqrstuvwxyz").cps.toList := by decide
  exact h3 c h2 h1
def iD (n : Nat) : D := .int (n : Int)
def iLs (l : List Nat) : D := .lst (l.map iD)
def iTs (l : List Nat) : D := .tup (l.map iD)
def stD (s : Nat × Nat × Nat) : D := .tup [iD s.1, sg s.2.1, iD s.2.2]
structure Mach where
  n : Nat
  fs : List Nat
  ls : List Nat
  st : List (Nat × Nat × Nat)
def Mach.d (m : Mach) : D := .tup [iD m.n, iLs m.fs, iLs m.ls, .lst (m.st.map stD)]
structure Mach.Ok (m : Mach) : Prop where
  n1 : 1 ≤ m.n
  n2 : m.n ≤ 12
  fsS : m.fs.Pairwise (· < ·)
  fsN : ∀ r ∈ m.fs, r < m.n
  lsS : m.ls.Pairwise (· < ·)
  lsN : ∀ r ∈ m.ls, r < m.n
  stN : ∀ s ∈ m.st, s.1 < m.n ∧ isL s.2.1 ∧ s.2.2 < m.n
  stD : m.st.Nodup
  stL : m.st.length ≤ 200
end Gm
namespace Gm
open PySem PySem.Spec PyProof.Rows L2
/-- ds are the things of l, each with its place -/
structure IdxIs {α : Type} (ds : List D) (l : List α) (f : Nat → α → D) : Prop where
  len : ds.length = l.length
  at' : ∀ (i : Nat) (x : α), l[i]? = some x → ds[i]? = some (f i x)
theorem idx_map {α : Type} {l : List α} (f : α → D) : IdxIs (l.map f) l (fun _ x => f x) := ⟨by simp, fun i x h => by rw [List.getElem?_map, h]; rfl⟩
theorem idx_enum {α : Type} {l : List α} (f : α → D) : IdxIs (enumD 0 (l.map f)) l (fun i x => .tup [iD i, f x]) := ⟨by rw [enumD_length]; simp, fun i x h => by
  have q := enumD_get (l.map f) 0 i (f x) (by rw [List.getElem?_map, h]; rfl)
  rw [Nat.zero_add] at q
  exact q⟩
theorem idx_mapE {α : Type} {ds : List D} {l : List α} {f : α → D} (e : ds = l.map f) : IdxIs ds l (fun _ x => f x) := by subst e; exact idx_map f
theorem idx_split {α : Type} {ds : List D} {l : List α} {f : Nat → α → D} (h : IdxIs ds l f) {pre post : List D} {x : D} (e : ds = pre ++ x :: post) : ∃ y, l = l.take pre.length ++ y :: l.drop (pre.length + 1) ∧ x = f pre.length y ∧ l[pre.length]? = some y := by
  have hl : pre.length < l.length := by rw [← h.len, e]; simp
  refine ⟨l[pre.length], by simp, ?_, List.getElem?_eq_getElem hl⟩
  have q := h.at' pre.length l[pre.length] (List.getElem?_eq_getElem hl)
  rw [e] at q
  simpa using q
section
variable {Z : Zn} {Γ : List Kd} {k : Rz → List Kd → Prop} {te : TE} {tt : TT} {g : TG} {t : TS} {E : Eg} {α : Type} {K' : PySem.W.Frag}
theorem st_forX {wi : TI} (h : ItD Z wi Γ fun ds Γ1 => ∃ (f : Nat → α → D) (l : List α) (G : List α → List Kd → Prop), IdxIs ds l f ∧ G [] Γ1 ∧
      (∀ p x q, l = p ++ x :: q → ∀ Γ, G p Γ → Tg Z g (.d (f p.length x)) Γ fun Γ2 => St Z t Γ2 { E with nx := G (p ++ [x]), ct := G (p ++ [x]), bk := E.nx }) ∧ ∀ Γ, G l Γ → E.nx Γ) : St Z (tFor wi g t) Γ E := by
  refine st_for fun σ H B I Rr q => h σ H B I Rr fun J ds Γ' H' B' I' s z ⟨f, l, G, hi, g0, gs, gd⟩ => q J ds Γ' H' B' I' s z ⟨fun pre Γ => G (l.take pre.length) Γ, g0, fun pre x post e Γ gp => ?_, fun Γ gp => ?_⟩
  · obtain ⟨y, e1, rfl, hy⟩ := idx_split hi e
    have hl := (List.getElem?_eq_some_iff.mp hy).1
    have h1 := gs (l.take pre.length) y _ e1 Γ gp
    have e2 : (l.take pre.length).length = pre.length := by rw [List.length_take]; omega
    rw [e2] at h1
    have e3 : l.take (pre ++ [f pre.length y]).length = l.take pre.length ++ [y] := by
      rw [List.length_append, List.length_singleton, List.take_add_one, hy]; rfl
    simp only [e3]
    exact h1
  · have e2 : l.take ds.length = l := by rw [hi.len, List.take_length]
    simp only [e2] at gp
    exact gd Γ gp
theorem st_forG {wi : TI} (f : Nat → α → D) (l : List α) (G : List α → List Kd → Prop) (h : ItD Z wi Γ fun ds Γ1 => IdxIs ds l f ∧ G [] Γ1 ∧
      (∀ p x q, l = p ++ x :: q → ∀ Γ, G p Γ → Tg Z g (.d (f p.length x)) Γ fun Γ2 => St Z t Γ2 { E with nx := G (p ++ [x]), ct := G (p ++ [x]), bk := E.nx }) ∧ ∀ Γ, G l Γ → E.nx Γ) : St Z (tFor wi g t) Γ E := by
  refine st_for fun σ H B I Rr q => h σ H B I Rr fun J ds Γ' H' B' I' s z ⟨hi, g0, gs, gd⟩ => q J ds Γ' H' B' I' s z ⟨fun pre Γ => G (l.take pre.length) Γ, g0, fun pre x post e Γ gp => ?_, fun Γ gp => ?_⟩
  · obtain ⟨y, e1, rfl, hy⟩ := idx_split hi e
    have hl := (List.getElem?_eq_some_iff.mp hy).1
    have h1 := gs (l.take pre.length) y _ e1 Γ gp
    have e2 : (l.take pre.length).length = pre.length := by rw [List.length_take]; omega
    rw [e2] at h1
    have e3 : l.take (pre ++ [f pre.length y]).length = l.take pre.length ++ [y] := by
      rw [List.length_append, List.length_singleton, List.take_add_one, hy]; rfl
    simp only [e3]
    exact h1
  · have e2 : l.take ds.length = l := by rw [hi.len, List.take_length]
    simp only [e2] at gp
    exact gd Γ gp
theorem ev_lcG {wi : TI} {vs : List Nat} (f : Nat → α → D) (l : List α) (F : List α → List D) (G : List α → List Kd → Prop) (hF : F [] = []) (hg : TgIn vs g) (hgm : TgM g)
    (h : ItD Z wi Γ fun ds Γ1 => ds.length ≤ 100000 ∧ IdxIs ds l f ∧ G [] Γ1 ∧ (∀ Γ, G l Γ → k (.n (.lst (F l))) Γ) ∧
      ∀ p x q, l = p ++ x :: q → ∀ Γ, G p Γ → freeAt vs Γ = true ∧ ∀ Ha, Tg { Z with H := Ha } g (.d (f p.length x)) (wipeK Γ vs) fun Γ2 => EvT { Z with H := Ha } tt Γ2 fun b Γ3 =>
        (b = true → Ev { Z with H := Ha } te Γ3 fun r Γ4 => ∃ d, r.fz = .d d ∧ F (p ++ [x]) = F p ++ [d] ∧ G (p ++ [x]) (rst vs 0 Γ Γ4)) ∧ (b = false → F (p ++ [x]) = F p ∧ G (p ++ [x]) (rst vs 0 Γ Γ3))) : Ev Z (tLc wi g tt te vs) Γ k := by
  refine ev_lc (fun pre => F (l.take pre.length)) (fun pre Γ => G (l.take pre.length) Γ) (by simpa using hF) hg hgm fun σ H B I Rr q => h σ H B I Rr fun J ds Γ' H' B' I' s z ⟨hn, hi, g0, gd, gs⟩ => q J ds Γ' H' B' I' s z ⟨hn, g0, fun Γ gp => ?_, fun pre x post e Γ gp => ?_⟩
  · have e2 : l.take ds.length = l := by rw [hi.len, List.take_length]
    simp only [e2] at gp ⊢
    exact gd Γ gp
  · obtain ⟨y, e1, rfl, hy⟩ := idx_split hi e
    have hl := (List.getElem?_eq_some_iff.mp hy).1
    obtain ⟨h0, h1⟩ := gs (l.take pre.length) y _ e1 Γ gp
    have e2 : (l.take pre.length).length = pre.length := by rw [List.length_take]; omega
    rw [e2] at h1
    have e3 : l.take (pre ++ [f pre.length y]).length = l.take pre.length ++ [y] := by
      rw [List.length_append, List.length_singleton, List.take_add_one, hy]; rfl
    simp only [e3]
    exact ⟨h0, h1⟩
/-- a comprehension without effects -/
theorem ev_lcP {wi : TI} {vs : List Nat} (f : Nat → α → D) (l : List α) (tf : α → Bool) (ef : α → D) (hg : TgIn vs g) (hgm : TgM g) (hv : freeAt vs Γ = true)
    (h : ItD Z wi Γ fun ds Γ1 => ds.length ≤ 100000 ∧ IdxIs ds l f ∧ Γ1 = Γ ∧ k (.n (.lst ((l.filter tf).map ef))) Γ ∧
      ∀ (i : Nat) (x : α), l[i]? = some x → ∀ Ha, Tg { Z with H := Ha } g (.d (f i x)) (wipeK Γ vs) fun Γ2 => EvT { Z with H := Ha } tt Γ2 fun b Γ3 =>
        b = tf x ∧ (b = true → Ev { Z with H := Ha } te Γ3 fun r Γ4 => r.fz = .d (ef x) ∧ rst vs 0 Γ Γ4 = Γ) ∧ (b = false → rst vs 0 Γ Γ3 = Γ)) : Ev Z (tLc wi g tt te vs) Γ k := by
  refine ev_lcG f l (fun p => (p.filter tf).map ef) (fun _ Γ' => Γ' = Γ) rfl hg hgm fun σ H B I Rr q => h σ H B I Rr fun J ds Γ' H' B' I' s z ⟨hn, hi, e, kk, hs⟩ => q J ds Γ' H' B' I' s z ⟨hn, hi, e, fun Γ2 e2 => by subst e2; exact kk, fun p x r el Γ2 e2 => ?_⟩
  subst e2
  refine ⟨hv, fun Ha => ?_⟩
  have hx : l[p.length]? = some x := by rw [el]; simp
  have h1 := hs p.length x hx Ha
  intro σ' H2 B2 v I2 x2 Q2 q2
  refine h1 σ' H2 B2 v I2 x2 Q2 fun Γ3 σ3 I3 k3 => q2 Γ3 σ3 I3 (k3.imp fun b Γ4 ⟨eb, k4, k5⟩ => ⟨fun hb => ?_, fun hb => ?_⟩)
  · refine (k4 hb).imp fun r Γ5 ⟨e3, e4⟩ => ⟨ef x, e3, ?_, e4⟩
    have : tf x = true := by rw [← eb]; exact hb
    rw [List.filter_append, List.map_append, List.filter_cons_of_pos this]
    rfl
  · refine ⟨?_, k5 hb⟩
    have : tf x = false := by rw [← eb]; exact hb
    rw [List.filter_append, List.map_append, List.filter_cons_of_neg (by rw [this]; decide)]
    simp
theorem et_yes {kb : Bool → List Kd → Prop} (h : kb true Γ) : EvT Z tYes Γ kb := fun σ H B I Q q => q true Γ H B I (Sb.refl B) h
/-- .. its things told by the walk -/
theorem ev_lcX {wi : TI} {vs : List Nat} (hg : TgIn vs g) (hgm : TgM g)
    (h : ItD Z wi Γ fun ds Γ1 => ∃ (f : Nat → α → D) (l : List α) (tf : α → Bool) (ef : α → D), ds.length ≤ 100000 ∧ IdxIs ds l f ∧ freeAt vs Γ1 = true ∧ k (.n (.lst ((l.filter tf).map ef))) Γ1 ∧
      ∀ (i : Nat) (x : α), l[i]? = some x → ∀ Ha, Tg { Z with H := Ha } g (.d (f i x)) (wipeK Γ1 vs) fun Γ2 => EvT { Z with H := Ha } tt Γ2 fun b Γ3 =>
        b = tf x ∧ (b = true → Ev { Z with H := Ha } te Γ3 fun r Γ4 => r.fz = .d (ef x) ∧ rst vs 0 Γ1 Γ4 = Γ1) ∧ (b = false → rst vs 0 Γ1 Γ3 = Γ1)) : Ev Z (tLc wi g tt te vs) Γ k := by
  refine ev_lcE hg hgm fun σ H B I Rr q => h σ H B I Rr fun J ds Γ' H' B' I' s z ⟨f, l, tf, ef, hn, hi, hv, kk, hs⟩ => q J ds Γ' H' B' I' s z ⟨fun pre => ((l.take pre.length).filter tf).map ef, fun _ Γ2 => Γ2 = Γ', by simp, hn, rfl, fun Γ2 e => ?_, fun pre x post e Γ2 e2 => ?_⟩
  · subst e
    have e2 : l.take ds.length = l := by rw [hi.len, List.take_length]
    simp only [e2]
    exact kk
  · subst e2
    refine ⟨hv, fun Ha => ?_⟩
    obtain ⟨y, e1, rfl, hy⟩ := idx_split hi e
    have hl := (List.getElem?_eq_some_iff.mp hy).1
    have e3 : l.take (pre ++ [f pre.length y]).length = l.take pre.length ++ [y] := by
      rw [List.length_append, List.length_singleton, List.take_add_one, hy]; rfl
    simp only [e3]
    have h1 := hs pre.length y hy Ha
    intro σ' H2 B2 v I2 x2 Q2 q2
    refine h1 σ' H2 B2 v I2 x2 Q2 fun Γ3 σ3 I3 k3 => q2 Γ3 σ3 I3 (k3.imp fun b Γ4 ⟨eb, k4, k5⟩ => ⟨fun hb => ?_, fun hb => ?_⟩)
    · refine (k4 hb).imp fun r Γ5 ⟨e3, e4⟩ => ⟨ef y, e3, ?_, e4⟩
      have : tf y = true := by rw [← eb]; exact hb
      rw [List.filter_append, List.map_append, List.filter_cons_of_pos this]
      rfl
    · refine ⟨?_, k5 hb⟩
      have : tf y = false := by rw [← eb]; exact hb
      rw [List.filter_append, List.map_append, List.filter_cons_of_neg (by rw [this]; decide)]
      simp
theorem filt_true {l : List α} : l.filter (fun _ => true) = l := List.filter_eq_self.mpr fun _ _ => rfl
/-- .. of all the things -/
theorem ev_lcM {wi : TI} {vs : List Nat} (f : Nat → α → D) (l : List α) (ef : α → D) (hg : TgIn vs g) (hgm : TgM g) (hv : freeAt vs Γ = true)
    (h : ItD Z wi Γ fun ds Γ1 => ds.length ≤ 100000 ∧ IdxIs ds l f ∧ Γ1 = Γ ∧ k (.n (.lst (l.map ef))) Γ ∧
      ∀ (i : Nat) (x : α), l[i]? = some x → ∀ Ha, Tg { Z with H := Ha } g (.d (f i x)) (wipeK Γ vs) fun Γ2 => Ev { Z with H := Ha } te Γ2 fun r Γ4 => r.fz = .d (ef x) ∧ rst vs 0 Γ Γ4 = Γ) : Ev Z (tLc wi g tYes te vs) Γ k := by
  refine ev_lcP f l (fun _ => true) ef hg hgm hv fun σ H B I Rr q => h σ H B I Rr fun J ds Γ' H' B' I' s z ⟨hn, hi, e, kk, hs⟩ => q J ds Γ' H' B' I' s z ⟨hn, hi, e, by rw [filt_true]; exact kk, fun i x hx Ha => ?_⟩
  have h1 := hs i x hx Ha
  intro σ' H2 B2 v I2 x2 Q2 q2
  exact h1 σ' H2 B2 v I2 x2 Q2 fun Γ3 σ3 I3 k3 => q2 Γ3 σ3 I3 (et_yes ⟨rfl, fun _ => k3, fun z => by cases z⟩)
theorem st_never (h : False) : St Z t Γ E := h.elim
/-- a source: an existing list, by its things -/
theorem tg_nameG {i : Nat} {r : Rz} {kt : List Kd → Prop} (hi : Nat.blt i Γ.length = true) (h : kt (Γ.set i (kdOf r))) : Tg Z (gName i) r Γ kt := tg_name (Nat.lt_of_lt_of_le (Nat.lt_succ_self i) (Nat.le_of_ble_eq_true hi)) h
theorem and_ble {a b : Nat} {P : Prop} (h : Nat.ble a b = true) (p : P) : a ≤ b ∧ P := ⟨Nat.le_of_ble_eq_true h, p⟩
theorem op_inL {K : PySem.W.Frag} {neg : Bool} {r1 r2 : Rz} {i : Nat} {l : List Nat} (e1 : vw Γ r1 = some (iD i)) (e2 : vw Γ r2 = some (iLs l)) (hk : k (.d (.bl (if neg = true then !decide (i ∈ l) else decide (i ∈ l)))) Γ) : Op2 Z (rIn K neg) r1 r2 Γ k := by
  have e : (l.map iD) = (l.map fun (n : Nat) => (n : Int)).map D.int := by rw [List.map_map]; rfl
  have h : decide ((i : Int) ∈ (l.map fun (n : Nat) => (n : Int))) = decide (i ∈ l) := by
    apply decide_eq_decide.mpr
    rw [List.mem_map]
    constructor
    · rintro ⟨n, hn, h⟩; have : n = i := by omega
      subst this; exact hn
    · intro h; exact ⟨i, h, rfl⟩
  refine op_inI (i := (i : Int)) (ns := l.map fun (n : Nat) => (n : Int)) (.inl rfl) e1 (e2.trans (by unfold iLs; rw [e])) ?_
  rw [h]
  exact hk
theorem op_ixS {K : PySem.W.Frag} {r1 r2 : Rz} {s : Str} {d : D} {i : Int} (e1 : vw Γ r1 = some (.str s)) (e2 : vw Γ r2 = some (.int i)) (hl : Nat.ble s.length 100000 = true) (h : itD (.str s) i = some d) (hk : k (.d d) Γ) : Op2 Z (rIx K) r1 r2 Γ k :=
  op_ix e1 e2 h (fun t e => by cases e; exact Nat.le_of_ble_eq_true hl) hk
theorem mt_joinG {s : Str} {ds : List D} {ys : List Str} {r1 : Rz} (e : unD r1 = some (.lst ds)) (ey : ds = ys.map D.str) (hl : (ys.map (·.length)).sum + ys.length * s.length ≤ 100000) (hk : k (.d (.str (Txt.join s ys))) Γ) : Mt Z (fun x xs H Q => ∃ a p, ∃ ys : List Str, x = .str a ∧ xs = [.ref p] ∧ (SqL K' H p (ys.map V.str) ∨ SqT K' H p (ys.map V.str)) ∧
      (ys.map (·.length)).sum + ys.length * a.length ≤ 16777216 ∧ Q (.str (Txt.join a ys)) H) (.d (.str s)) [r1] Γ k := by
  cases r1 <;> cases e
  subst ey
  exact mt_joinD hl hk
theorem unD_d {r : Rz} {d : D} (h : unD r = some d) : r = .d d := by cases r <;> cases h; rfl
theorem it_listG {K : PySem.W.Frag} {k : List D → List Kd → Prop} (h : Ev Z te Γ fun r Γ1 => ∃ ds, unD r.fz = some (.lst ds) ∧ k ds Γ1) : ItD Z (iSeq K te) Γ k := it_list (h.imp fun r Γ1 ⟨ds, e, kk⟩ => ⟨ds, unD_d e, kk⟩)
theorem it_tupG {K : PySem.W.Frag} {k : List D → List Kd → Prop} (h : Ev Z te Γ fun r Γ1 => ∃ ds, unD r.fz = some (.tup ds) ∧ k ds Γ1) : ItD Z (iSeq K te) Γ k := it_tup (h.imp fun r Γ1 ⟨ds, e, kk⟩ => ⟨ds, unD_d e, kk⟩)
theorem it_enumG {K : PySem.W.Frag} {ta : TA} {k : List D → List Kd → Prop} (h : EvA Z ta Γ fun rs Γ1 => ∃ ds, unDs rs = some [.lst ds] ∧ k (enumD 0 ds) Γ1) : ItD Z (iEnum K ta) Γ k := it_enum fun σ H B I Q q => h σ H B I Q fun rs Γ' vs H' B' I' s x ⟨ds, e, kk⟩ => q rs Γ' vs H' B' I' s x ⟨ds, unDs_map e, kk⟩
theorem it_rngG {ta : TA} {k : List D → List Kd → Prop} (h : EvA Z ta Γ fun rs Γ1 => ∃ n : Nat, unDs rs = some [iD n] ∧ n ≤ 100000 ∧ k ((List.range n).map iD) Γ1) : ItD Z (iRng1 ta) Γ k := it_rng1 fun σ H B I Q q => h σ H B I Q fun rs Γ' vs H' B' I' s x ⟨n, e, hn, kk⟩ => q rs Γ' vs H' B' I' s x ⟨n, unDs_map e, by omega, by omega, by rw [Int.toNat_natCast]; exact kk⟩
theorem atN_none {α : Type} {f g : α → D} {l : List α} {k : NestedKey} (h : ∀ a ∈ l, kyD (f a) ≠ k) : atN (l.map fun a => (f a, g a)) k = none := by
  unfold atN
  rw [List.find?_eq_none.mpr ?_]
  · rfl
  · intro x hx
    obtain ⟨a, ha, rfl⟩ := List.mem_map.mp hx
    simpa using h a ha
theorem atN_some {α : Type} {f g : α → D} {l : List α} {b : α} (hb : b ∈ l) (hi : ∀ a ∈ l, kyD (f a) = kyD (f b) → a = b) : atN (l.map fun a => (f a, g a)) (kyD (f b)) = some (g b) := by
  induction l with
  | nil => cases hb
  | cons a l ih =>
    rw [List.map_cons]
    by_cases e : kyD (f a) = kyD (f b)
    · have := hi a List.mem_cons_self e
      subst this
      unfold atN
      rw [List.find?_cons_of_pos (by simp)]
      rfl
    · have e2 : atN ((f a, g a) :: l.map fun a => (f a, g a)) (kyD (f b)) = atN (l.map fun a => (f a, g a)) (kyD (f b)) := by
        unfold atN
        rw [List.find?_cons_of_neg (by simpa using e)]
      rw [e2]
      refine ih ?_ fun a ha => hi a (List.mem_cons_of_mem _ ha)
      rcases List.mem_cons.mp hb with rfl | h
      · exact absurd rfl e
      · exact h
theorem ky_step {s t : Nat × Nat × Nat} (h : kyD (stD s) = kyD (stD t)) : s = t := by
  obtain ⟨a, b, c⟩ := s
  obtain ⟨a', b', c'⟩ := t
  simp only [stD, iD, sg, kyD, kyDs, NestedKey.tup.injEq, List.cons.injEq, NestedKey.num.injEq, NestedKey.text.injEq, Int.natCast_inj, and_true] at h
  obtain ⟨h1, h2, h3⟩ := h
  rw [h1, s1_inj h2, h3]
theorem keyOk_step (s : Nat × Nat × Nat) : KeyOk (stD s) := ⟨⟨_, rfl⟩, rfl, Nat.le_of_ble_eq_true rfl⟩
end
end Gm
namespace Gm
open PySem PySem.Spec PyProof.Rows L2
/-! Rules whose readings name the frame's fragment and world: those as parameters of their own. -/
section
variable {X : Cx} {K : PySem.W.Frag} {w : World}
theorem kop_in (hK : X.K = K := by rfl) : OpR X (compareOp .In) (rIn K false) := by subst hK; exact op_in_seq
theorem kop_notIn (hK : X.K = K := by rfl) : OpR X (compareOp .NotIn) (rIn K true) := by subst hK; exact op_notIn_seq
theorem kix_seq (hK : X.K = K := by rfl) : IxR X (rIx K) := by subst hK; exact ix_seq
theorem kcall_isi (hK : X.K = K := by rfl) : CallR X (.builtin "isinstance") (rIsi K) := by subst hK; exact call_isi
theorem kcall_len (hK : X.K = K := by rfl) : CallR X (.builtin "len") (fun xs H Q => ∃ x n, xs = [x] ∧ LenV K x H n ∧ Q (.int n) H) := by subst hK; exact call_len
theorem kop_EQ (hu : X.A.units + 64 < cLine) (hK : X.K = K := by rfl) : OpR X (compareOp .Eq) (orR rEq (rEqD K)) := by subst hK; exact op_EQ hu
theorem kop_NE (hu : X.A.units + 64 < cLine) (hK : X.K = K := by rfl) : OpR X (compareOp .NotEq) (orR rNe (rNeD K)) := by subst hK; exact op_NE hu
theorem kop_inD (hu : X.A.units + 65 < cLine) (hK : X.K = K := by rfl) : OpR X (compareOp .In) (rInD K) := by subst hK; exact op_inD hu
theorem kcr_any (hc : X.calm = true) (hK : X.K = K := by rfl) : CallR X (.builtin "any") (rAny K) := by subst hK; exact cr_any hc
theorem kcr_all (hc : X.calm = true) (hK : X.K = K := by rfl) : CallR X (.builtin "all") (rAll K) := by subst hK; exact cr_all hc
theorem kpi_seq {tg e : Expr} {t : TE} (h : PE X e t) (hK : X.K = K := by rfl) : PI X tg e (iSeq K t) := by subst hK; exact pi_seq h
theorem kpi_keysN {tg e : Expr} {t : TE} (h : PE X e t) (hw : X.w = w := by rfl) : PI X tg e (iKeysN w t) := by subst hw; exact pi_keysN h
theorem kcall_list_of (hK : X.K = K := by rfl) : CallR X (.type "list") (fun xs H Q => ∃ p ys, xs = [.ref p] ∧ (SqL K H p ys ∨ SqT K H p ys) ∧ ∀ l, H l = none → Q (.ref l) (upd H l (.lst ys))) := by subst hK; exact call_list_of
theorem kop_inDN (hu : X.A.units + 64 < cLine) (hw : X.w = w := by rfl) : OpR X (compareOp .In) (rInN w false) := by subst hw; exact op_inDN hu
theorem kop_notInDN (hu : X.A.units + 64 < cLine) (hw : X.w = w := by rfl) : OpR X (compareOp .NotIn) (rInN w true) := by subst hw; exact op_notInDN hu
theorem kix_dN (hu : X.A.units + 64 < cLine) (hw : X.w = w := by rfl) : IxR X (rIxN w) := by subst hw; exact ix_dN hu
theorem kset_dN (hu : X.A.units + 64 < cLine) (hw : X.w = w := by rfl) : PSet X (rSetN w) := by subst hw; exact set_dN hu
theorem kcall_listN (hc : X.calm = true) (hw : X.w = w := by rfl) : CallR X (.type "list") (rListN w) := by subst hw; exact call_listN hc
theorem ksl_list (hK : X.K = K := by rfl) : SlR X (rSlL K) := by subst hK; exact sl_list
theorem kcrk_max (hu : X.A.units + 64 < cLine) (hc : X.calm = true) (hK : X.K = K := by rfl) : CallRK X (.builtin "max") ["default"] (rMaxKw K) := by subst hK; exact crk_max hu hc
theorem kcrk_sum (hc : X.calm = true) (hK : X.K = K := by rfl) : CallRK X (.builtin "sum") ["start"] (rSumKw K) := by subst hK; exact crk_sum hc
theorem kcr_sortedP (hu : X.A.units + 64 < cLine) (hK : X.K = K := by rfl) : CallR X (.builtin "sorted") (rSortP K) := by subst hK; exact cr_sortedP hu
theorem kpg_tup {es : List Expr} {k n : Nat} {t : TGs} {pos : Pos} (hc : X.calm = true) (h : PGs X es t) (hK : X.K = K := by rfl)
    (hn : (assignEach es X.env).length = n := by rfl) (hst : (assignEach es X.env).findIdx? (·.1) = none := by rfl) : PG X (.Tuple es k pos) (gTup K n t) := by subst hK; exact pg_tup hc h hn hst
theorem kpe {e : Expr} {t t' : TE} (h : PE X e t) (et : t = t' := by rfl) : PE X e t' := by subst et; exact h
theorem kpi {tg e : Expr} {t t' : TI} (h : PI X tg e t) (et : t = t' := by rfl) : PI X tg e t' := by subst et; exact h
end
end Gm
namespace Gm
open PySem PySem.Spec PyProof.Rows L2
/-! ### enumerate(text) -/
def Ites (x : Str) : It := ⟨fun i H => i < x.cps.size, fun i H v H' => ∃ T c, v = .ref T ∧ H T = none ∧ H' = upd H T (.tup [.int (i : Nat), .str ⟨#[c]⟩]) ∧ x.cps[i]? = some c, fun i H => i = x.cps.size⟩
theorem draws_str {P : Program} {w : World} {A : Around} (hh : A.handled = none) (it : Addr) (x : Str) (t : Tok) :
    Draws P w A it [it] x.cps.size (fun i v => ∃ c u, x.cps[i]? = some c ∧ v = .str ⟨#[c]⟩ u) (fun i h => h.IsStrIter it (strIterType x) x t i) := by
  unfold strIterType
  cases h : x.cps.all (· < 128)
  · simp only [Bool.false_eq_true, if_false]
    exact Draws.strWide hh it x t
  · simp only [if_true]
    exact Draws.strAscii hh it x t
theorem turn_enumS {P : Program} {w : World} {K : PySem.W.Frag} {elts : List Expr} {kk : Nat} {tpos : Pos} (x : Str) (t : Tok) (e it : Addr) :
    Turn P w K (.Tuple elts kk tpos) (Ites x) [e, it] e (fun i h => (∃ old, IsEnum h e it ((i : Nat) : Int) old) ∧ h.IsStrIter it (strIterType x) x t i ∧ e ≠ it) where
  mem := by simp
  obj := fun i h st b hb => by
    obtain ⟨⟨old, he⟩, ⟨o, ho, hc, hd⟩, _⟩ := st
    rcases List.mem_cons.mp hb with z | z
    · rw [z]; exact ⟨_, he, fun v q => nomatch q⟩
    · rw [List.mem_singleton.mp z]; exact ⟨o, ho, fun v q => by rw [hd] at q; cases q⟩
  keep := fun i h h' st k => by
    obtain ⟨⟨old, he⟩, ⟨o, ho, r⟩, hne⟩ := st
    exact ⟨⟨old, k e (by simp) _ he⟩, ⟨o, k it (by simp) o ho, r⟩, hne⟩
  item := by
    intro X hP hw hK hc i pins s σ H E I hf st hg
    subst hP hw hK
    obtain ⟨⟨old, he⟩, hit, hne⟩ := st
    have hel : e < s.heap.objs.size := Heap.lt_size he
    have hil : it < s.heap.objs.size := by obtain ⟨_, q, _⟩ := hit; exact Heap.lt_size q
    refine wpAny_pyNext_enum_itemD (draws_str (show X.A.in1.handled = none from I.ok.hd hc) it x t) he hit hg hne (fun z => hne (List.mem_singleton.mp z)) fun v h' tk hv ho hit' hT hsz hk => ?_
    obtain ⟨c, u, hcx, rfl⟩ := hv
    refine ⟨_, rfl, wpAny_letOwnedTupleGo_enum (s := { s with heap := h', toks := tk + 1 }) ho fun h'' he' sb => ?_⟩
    have hT2 : h''.get? s.heap.objs.size = some { cls := .type "tuple", data := .seq #[.int i tk, .str ⟨#[c]⟩ u] } := (sb.2 _ (Nat.ne_of_gt hel)).trans hT
    have new : ObjOk X.prog X.w (upd H s.heap.objs.size (.tup [.int (i : Nat), .str ⟨#[c]⟩])) h'' s.heap.objs.size (.tup [.int (i : Nat), .str ⟨#[c]⟩]) :=
      ⟨by show 2 ≤ sizeLine; decide, [.int i tk, .str ⟨#[c]⟩ u], .cons ⟨_, rfl⟩ (.cons ⟨_, rfl⟩ .nil), ⟨_, hT2, rfl, _, rfl⟩⟩
    have I1 : L2.Inv X pins σ (upd H s.heap.objs.size (.tup [.int (i : Nat), .str ⟨#[c]⟩])) { s with heap := h'', toks := tk + 1 } :=
      I.turnedNew (ch := [e, it]) (fun b ob hb q => (sb.2 b (fun z => hb (by simp [z]))).trans (hk b ob (fun z => hb (by simp [z])) (fun z => hb (by simp [z])) q)) hf (Nat.le_refl _) new
    refine ⟨.ref s.heap.objs.size, _, I1, rfl, ⟨_, c, rfl, I.hok.fresh (Nat.le_refl _), rfl, hcx⟩, ⟨⟨.str ⟨#[c]⟩ u, ?_⟩, ?_, hne⟩, fun b hb => ?_⟩
    · have e1 : ((i + 1 : Nat) : Int) = (i : Int) + 1 := by omega
      rw [e1]; exact he'
    · obtain ⟨o, q, r⟩ := hit'
      exact ⟨o, (sb.2 it (Ne.symm hne)).trans q, r⟩
    · have hb' : b < s.heap.objs.size := by
        rcases List.mem_cons.mp hb with z | z
        · rw [z]; exact hel
        · rw [List.mem_singleton.mp z]; exact hil
      rw [upd_ne (Nat.ne_of_lt hb')]
      exact (hf b hb).1
  done := by
    intro X hP hw hK hc i pins s σ H E I hf st hg
    subst hP hw hK
    obtain ⟨⟨old, he⟩, hit, hne⟩ := st
    obtain ⟨f0, f1, f2, f3, f4, f5⟩ := hf it (by simp)
    have hi : i = x.cps.size := hg
    subst hi
    exact wpAny_pyNext_enum_endD (draws_str (show X.A.in1.handled = none from I.ok.hd hc) it x t) he hit fun h' eb => ⟨rfl, I.turned (t' := s.toks) (fun b o hb q => eb b o hb q) f0 f1 f3 f4 f5⟩
  self := fun A i s Q E st h => by
    obtain ⟨⟨_, he⟩, _⟩ := st
    exact wpAny_pyIter_enum he h
def iEnumS (ta : TA) : TI := fun σ H R => ta σ H fun vs H1 => ∃ x, vs = [.str x] ∧ R (Ites x) H1
theorem pi_enumS {X : Cx} {e : Expr} {ta : TA} {p pos tpos : Pos} {elts : List Expr} {kk : Nat} (hg : Gl X "enumerate") (hm : X.mg "enumerate" = none) (ha : PA X [e] ta) (hs : starEach [e] X.env = [(false, eval e X.env)] := by rfl) :
    PI X (.Tuple elts kk tpos) (.Call (.Name "enumerate" p) [e] [] pos) (iEnumS ta) := by
  refine ⟨fun pins s σ H R I h => ?_⟩
  refine Call_ (ld_blt I hg hm boot_enumerate (PyProof.Rows.callWith_type1 (thn (ha.run pos pins s σ H _ I h) fun us s1 ⟨vs, H1, I1, r1, q1⟩ => ?_) hs rfl))
  obtain ⟨x, ex, q⟩ := q1
  subst ex
  obtain ⟨u, rfl, t, rfl⟩ := Vals.one r1
  refine call_enumerate_str fun h' he hit hsz hk => wpAny_pyIter_enum he ?_
  have I2 : L2.Inv X pins σ H1 { s1 with heap := h' } := I1.kept (t' := s1.toks) hk
  refine ⟨s1.heap.objs.size + 1, [s1.heap.objs.size + 1, s1.heap.objs.size], _, _, H1, rfl, I2, turn_enumS x t (s1.heap.objs.size + 1) s1.heap.objs.size, ⟨⟨.none, he⟩, hit, Nat.succ_ne_self _⟩, fun b hb => ?_, q⟩
  have hle : s1.heap.objs.size ≤ b := by
    rcases List.mem_cons.mp hb with z | z
    · rw [z]; exact Nat.le_add_right _ _
    · rw [List.mem_singleton.mp z]; exact Nat.le_refl _
  exact I1.fpOk hle (I1.hok.fresh hle)
theorem iz_enumS {w : World} {B : Hp} (s : Str) : Iz w (Ites s) (enumD 0 ((chars s).map D.str)) B where
  stop := fun H B' h1 h2 => by
    show _ = s.cps.size
    rw [enumD_length]
    unfold chars
    simp
  go := fun i H B' h1 h2 hi => by
    rw [enumD_length] at hi
    unfold chars at hi
    simp at hi
    exact hi
  yld := fun T i H B' x H' hi h1 h2 h3 h4 y => by
    obtain ⟨p, c, rfl, hp, rfl, hc⟩ := y
    have hs : Sb B' (upd B' p (.tup [.int (i : Nat), .str ⟨#[c]⟩])) := fun a u z => by rw [upd_ne (ne_of_none (h2 a u z) hp)]; exact z
    refine ⟨upd B' p (.tup [.int (i : Nat), .str ⟨#[c]⟩]), .tup [.int (i : Nat), .str ⟨#[c]⟩], grow_new h2 h3 h4 hp (fun _ z => nomatch z), ?_, R.tup upd_same (.cons (.int _) (.cons (.str _) .nil))⟩
    have q := enumD_get ((chars s).map D.str) 0 i (.str ⟨#[c]⟩) (by
      unfold chars
      rw [List.getElem?_map, List.getElem?_map, Array.getElem?_toList, hc]
      rfl)
    rw [Nat.zero_add] at q
    exact q
theorem chars_mk (l : List Nat) : (chars (mkS l)).map D.str = l.map sg := by
  unfold chars mkS
  rw [List.map_map]
  rfl
theorem idx_enumS (l : List Nat) : IdxIs (enumD 0 ((chars (mkS l)).map D.str)) l (fun i c => .tup [iD i, sg c]) := by rw [chars_mk]; exact idx_enum sg
theorem it_enumS {Z : Zn} {Γ : List Kd} {ta : TA} {k : List D → List Kd → Prop} (h : EvA Z ta Γ fun rs Γ1 => ∃ s, unDs rs = some [.str s] ∧ k (enumD 0 ((chars s).map D.str)) Γ1) : ItD Z (iEnumS ta) Γ k := fun σ H B I Rr q =>
  h σ H B I _ fun rs Γ1 vs H1 B1 I1 s1 x1 ⟨s, e, kk⟩ => by
    have e2 := unDs_map e
    subst e2
    obtain ⟨v, rfl, y⟩ := x1.one
    have y' := y Γ1 H1
    cases y'
    exact ⟨s, rfl, q _ _ Γ1 H1 B1 I1 s1 (iz_enumS s) kk⟩
end Gm
namespace Gm
open PySem PySem.Spec PyProof.Rows L2
/-! ### dict(list of pairs (key, True)) -/
theorem storedAll_new : ∀ (ps xs : List (NestedKey × Addr × Value)), ((xs ++ ps).map (·.1)).Nodup → storedAllH xs ps = xs ++ ps
  | [], xs, _ => by rw [List.append_nil]; rfl
  | p :: ps, xs, h => by
    have e1 : storedH xs p.1 p.2.1 p.2.2 = xs ++ [p] := storedH_new (by
      unfold atKey
      rw [List.find?_eq_none.mpr fun x hx => ?_]
      · rfl
      · rw [List.map_append] at h
        have := (List.nodup_append.mp h).2.2 x.1 (List.mem_map_of_mem hx) p.1 (List.mem_map_of_mem List.mem_cons_self)
        simpa using this) _ _
    show storedAllH (storedH xs p.1 p.2.1 p.2.2) ps = _
    rw [e1, storedAll_new ps (xs ++ [p]) (by rw [List.append_assoc]; exact h), List.append_assoc]
    rfl
def rDictT (w : World) : List V → Hp → VK → Prop := fun vs H Q => ∃ (l : Addr) (es : List (NestedKey × Addr × Addr)), vs = [V.ref l] ∧ H l = some (.lst (es.map fun e => V.ref e.2.2)) ∧ (es.map (·.1)).Nodup ∧ es.length < sizeLine ∧
  (∀ e ∈ es, H e.2.2 = some (.tup [.ref e.2.1, .bl true]) ∧ IsK H (.ref e.2.1) e.1 e.2.1) ∧ ∀ p o, H p = none → Q (.ref p) (upd H p (DNo w p o (es.map fun e => (e.1, e.2.1, Value.bool true))))
section
variable {X : Cx}
theorem call_dictT (hu : X.A.units + 64 < cLine) (hc : X.calm = true) : CallR X (.type "dict") (rDictT X.w) := by
  intro pins s σ H vs us Q I r h
  obtain ⟨l, es, rfl, hl, hn, hz, he, q⟩ := h
  obtain ⟨u, rfl, rx⟩ := r.one
  cases rx
  obtain ⟨its, rv, pl, _⟩ := I.list (SqL.of hl)
  have rv' : Vals ((es.map (·.2.2)).map V.ref) its := by rw [List.map_map]; exact rv
  have ei := refs_at rv'
  subst ei
  have hk0 : ∀ e ∈ es, (nestedKind X.prog X.w).is s.heap e.1 e.2.1 := fun e h => ⟨ky_is I.hok (he e h).2.2.1 rfl, (he e h).2.2.2⟩
  have ok : PlainSeq "list" s.heap l (((es.map (·.2.2)).map Value.ref).toArray) ∧ PairItems s.heap (((es.map (·.2.2)).map Value.ref).toArray) (fun j => (es[j]?.map (·.2.2)).getD 0) (es.map fun e => (Value.ref e.2.1, Value.bool true)) := by
    refine ⟨pl, by simp, fun j k v hj => ?_⟩
    rw [List.getElem?_map] at hj
    obtain ⟨e, h1, h2⟩ := Option.map_eq_some_iff.mp hj
    cases h2
    refine ⟨by simp [h1], .inl ?_⟩
    show s.heap.IsTuple ((es[j]?.map (·.2.2)).getD 0) _
    rw [h1]
    obtain ⟨_, us, ru, hu2⟩ := I.hok _ _ (he e (List.mem_of_getElem? h1)).1
    cases ru with
    | cons r1 r2 =>
      cases r1
      cases r2 with
      | cons r3 r4 =>
        cases r3
        cases r4
        exact hu2
  refine PySem.call_dict_pairsH (knd := nestedKind X.prog X.w) (ps := es.map fun e => (e.1, e.2.1, Value.bool true)) (PairArg.list l _ (fun j => (es[j]?.map (·.2.2)).getD 0) (es.map fun e => (Value.ref e.2.1, Value.bool true))) (I.ok.hd hc) (by show X.A.in1.in1.units + 8 < cLine; simp only [Around.in1_units]; omega) ok ⟨by simp, fun i key v hi => ?_⟩ (fun h' hk x hx => ?_) (by rw [List.length_map]; exact Nat.le_of_lt hz) fun h' tk D' hk => ?_
  · have hi : (es.map fun e => (Value.ref e.2.1, Value.bool true))[i]? = some (key, v) := hi
    rw [List.getElem?_map] at hi
    obtain ⟨e, h1, h2⟩ := Option.map_eq_some_iff.mp hi
    cases h2
    exact ⟨e.1, e.2.1, by rw [List.getElem?_map, h1]; rfl, rfl⟩
  · obtain ⟨e, h1, rfl⟩ := List.mem_map.mp hx
    exact nestedKind_stays.stays (fun b o vs n h2 _ => hk b o (Nat.ne_of_lt (Heap.lt_size h2)) (fun z => nomatch z) h2) (hk0 e h1)
  · rw [storedAll_new _ [] (by rw [List.nil_append, List.map_map]; exact hn), List.nil_append] at D'
    obtain ⟨o', new⟩ := dn_new (H := upd H s.heap.objs.size (DNo X.w s.heap.objs.size default [])) D' (beq_eq_false_iff_ne.mpr (Nat.ne_of_gt I.big)) (by rw [List.length_map]; exact Nat.le_of_lt hz)
    exact ⟨.ref s.heap.objs.size, _, I.laid (a := s.heap.objs.size) (t' := tk) (fun b o e => hk b o (fun z => nomatch z) e) (Nat.le_refl _) (by obtain ⟨a, b, c⟩ := new; exact ⟨a, b, c⟩), rfl, q _ o' (I.hok.fresh (Nat.le_refl _))⟩
theorem kcall_dictT {w : World} (hu : X.A.units + 64 < cLine) (hc : X.calm = true) (hw : X.w = w := by rfl) : CallR X (.type "dict") (rDictT w) := by subst hw; exact call_dictT hu hc
end
/-- dict of pairs of keys and True -/
theorem cb_dictT {Z : Zn} {Γ : List Kd} {k : Rz → List Kd → Prop} {w : World} {r1 : Rz} {ks : List D} (hw : Z.w = w) (e1 : r1 = .d (.lst (ks.map fun d => .tup [d, .bl true]))) (hk : ∀ d ∈ ks, KeyOk d) (hn : (ks.map kyD).Nodup) (hl : ks.length ≤ 100000)
    (h : k (.n (.dN (ks.map fun d => (d, .bl true)))) Γ) : Cb Z (rDictT w) [r1] Γ k := fun σ H B vs I x Q q => by
  subst hw e1
  obtain ⟨v, rfl, y⟩ := x.one
  obtain ⟨p, rfl, xs, hp, r⟩ := R.ob (y Γ H) rfl
  have key : ∀ {xs : List V} {ks : List D}, Rs Z.w B xs (ks.map fun d => .tup [d, .bl true]) → (∀ d ∈ ks, KeyOk d) → ∃ es : List (NestedKey × Addr × Addr), xs = es.map (fun e => V.ref e.2.2) ∧ es.map (·.1) = ks.map kyD ∧ (∀ e ∈ es, H e.2.2 = some (.tup [.ref e.2.1, .bl true]) ∧ IsK H (.ref e.2.1) e.1 e.2.1) ∧
      RN Z.w B (es.map fun e => (e.1, e.2.1, Value.bool true)) (ks.map fun d => (d, .bl true)) := by
    intro xs ks
    induction ks generalizing xs with
    | nil => intro r _; cases r; exact ⟨[], rfl, rfl, fun _ h => (nomatch h), .nil⟩
    | cons d ks ih =>
      intro r hk
      cases r with
      | cons a b =>
        obtain ⟨es, rfl, h2, h3, h4⟩ := ih b fun d hd => hk d (List.mem_cons_of_mem _ hd)
        cases a with
        | tup e r =>
          cases r with
          | cons a1 a2 =>
            cases a2 with
            | cons a3 a4 =>
              cases a3; cases a4
              obtain ⟨ka, rfl, ik⟩ := isK_of (H := H) (hk d List.mem_cons_self) a1 I.sub
              refine ⟨(kyD d, ka, _) :: es, rfl, by simp [h2], fun e' he' => ?_, .cons (hk d List.mem_cons_self) a1 (show RelV (.bl true) (Value.bool true) from rfl) (.bl true) h4⟩
              rcases List.mem_cons.mp he' with rfl | he'
              · exact ⟨I.sub _ _ e, ik⟩
              · exact h3 e' he'
  obtain ⟨es, rfl, h2, h3, h4⟩ := key r hk
  have hle : es.length = ks.length := by
    have := congrArg List.length h2
    rwa [List.length_map, List.length_map] at this
  refine ⟨p, es, rfl, I.sub _ _ hp, by rw [h2]; exact hn, by rw [hle]; exact Nat.lt_of_le_of_lt hl (by decide), h3, fun a o ha => ?_⟩
  exact q (.n (.dN (ks.map fun d => (d, .bl true)))) Γ _ _ B (I.free ha) (Sb.refl B) (RzOk.new I ha (ob_dN.mpr ⟨o, _, upd_same, h4⟩)) h
end Gm
namespace Gm
open PySem PySem.Spec PyProof.Rows L2
/-! ### a new object handed out; an object handed in to be changed -/
def spN (w : World) (T : List NdefX.NTab) (pre : List D → Prop) (post : List D → D → Prop) : Sp := fun vs H Q _ => ∃ B ds, Sb B H ∧ (∀ a o, B a = some o → NT o) ∧ NdefX.TabsN T H ∧ Rs w B vs ds ∧ pre ds ∧
  ∀ p d H' B', Grow T H B H' B' → Ob w B' H' p d → B' p = none → H p = none → post ds d → Q (.ref p) H'
section
variable {P : Program} {w : World} {K : PySem.W.Frag} {mg : Str → Option Value} {base : Heap} {x qual : Str} {params : Arguments} {body : List Stmt} {scope : Scope} {dvs : List V} {kws : List (Str × V)} {f : Addr} {fd : FuncData}
theorem fnN {T : List NdefX.NTab} {pre : List D → Prop} {post : List D → D → Prop} {N ps : List Str} {k : Nat} (F : FunD K x qual params body scope dvs kws f fd) (S : FnScope N ps scope) (hpre : ∀ ds, pre ds → ds.length = ps.length)
    (hb : ∀ (cdv : Value) (A : Around) (outer : List Env) (s : Shared) (H : Hp) (E : XK), Room k (A.deeper (envOfC qual scope s.heap.objs.size f cdv)) →
      ∃ t, PSs (cxOf CX0 P w K mg base N qual scope f cdv A outer s H E).nox body t ∧ ∀ (H B : Hp) (ds : List D), pre ds → St ⟨w, H, B, [], T⟩ t (start0 N.length ds) { nx := fun _ => False, rt := fun r _ => ∃ d, r = .n d ∧ post ds d }) :
    FnOk P w K mg base CX0 (k + 1) f fd ps (spN w T pre post) := by
  refine F.ok S (fun vs H Q E x => by obtain ⟨B, ds, _, _, _, r, p, _⟩ := x; rw [r.length]; exact hpre ds p) fun cdv A outer s H vs Q E hr h => ?_
  obtain ⟨B, ds, h1, h2, h3, r, hp, q⟩ := h
  obtain ⟨t, ht, hs⟩ := hb cdv A outer s H E hr
  refine ⟨t, ht.nox, hs H B ds hp (L2.start N vs) H B (env_start h1 h2 h3 r) _ ⟨?_, ?_, ?_, ?_⟩⟩
  · intro σ H' B' Γ I _ hq
    exact hq.elim
  · rintro σ H' B' Γ v r I _ hr ⟨d, rfl, hq⟩
    obtain ⟨p, rfl, y, b, c, _⟩ := hr
    exact q p d H' B' I.toGrow y b c hq
  · intro σ H' B' Γ I _ hq
    exact hq.elim
  · intro σ H' B' Γ I _ hq
    exact hq.elim
/-- what changes while an object handed in, at p, is changed -/
structure GrowM (T : List NdefX.NTab) (p : Addr) (H B H' B' : Hp) : Prop where
  keep : ∀ a o, H a = some o → a ≠ p → NT o → H' a = some o
  there : ∀ a, H a ≠ none → H' a ≠ none
  base : Sb B B'
  sub : Sb B' H'
  nt : ∀ a o, B' a = some o → NT o
  apart : ∀ a, H a ≠ none → B a = none → B' a = none
  tabs : NdefX.TabsN T H'
def spM (w : World) (T : List NdefX.NTab) (pre : List D → Prop) (post : List D → D → D → Prop) : Sp := fun vs H Q _ => ∃ B p rest d0 ds, vs = .ref p :: rest ∧ Sb B H ∧ (∀ a o, B a = some o → NT o) ∧ NdefX.TabsN T H ∧ Ob w B H p d0 ∧ B p = none ∧ Rs w B rest ds ∧ pre (d0 :: ds) ∧
  ∀ v d d1 H' B', GrowM T p H B H' B' → Ob w B' H' p d1 → R w B' v d → post (d0 :: ds) d1 d → Q v H'
def startM (n : Nat) (d0 : D) (ds : List D) : List Kd := .ob false d0 :: (ds.map Kd.dat ++ List.replicate (n - 1 - ds.length) Kd.any)
theorem env_startM {T : List NdefX.NTab} {H B : Hp} {N : List Str} {p : Addr} {rest : List V} {d0 : D} {ds : List D} (h1 : Sb B H) (h2 : ∀ a o, B a = some o → NT o) (h3 : NdefX.TabsN T H) (h4 : Ob w B H p d0) (h5 : B p = none) (r : Rs w B rest ds) : EnvOk ⟨w, H, B, [p], T⟩ (startM N.length d0 ds) (L2.start N (.ref p :: rest)) H B where
  keepH := fun a o e _ _ => e
  there := fun a e => e
  keepB := Sb.refl B
  sub := h1
  nt := h2
  apart := fun a e b => b
  tabs := h3
  len := by
    unfold startM L2.start
    simp only [List.length_cons, List.length_append, List.length_map, List.length_replicate]
    rw [r.length]
    omega
  slots := fun i k e => by
    unfold startM at e
    unfold L2.start
    cases i with
    | zero =>
      simp only [List.getElem?_cons_zero, Option.some.injEq] at e
      subst e
      refine ⟨p, rfl, h4, h5, ?_⟩
      rw [if_neg (by decide)]
      exact List.mem_cons_self
    | succ i =>
      rw [List.getElem?_cons_succ] at e
      by_cases hi : i < ds.length
      · rw [List.getElem?_append_left (by rw [List.length_map]; exact hi), List.getElem?_map] at e
        have hd : ds[i]? = some ds[i] := by simp [hi]
        rw [hd] at e
        cases e
        obtain ⟨v, hv, rv⟩ := r.get' hd
        rw [List.map_cons, List.cons_append, List.getElem?_cons_succ, List.getElem?_append_left (by rw [List.length_map, r.length]; exact hi), List.getElem?_map, hv]
        exact ⟨v, rfl, rv⟩
      · rw [List.getElem?_append_right (by rw [List.length_map]; omega), List.getElem?_replicate] at e
        split at e
        · cases e; trivial
        · cases e
  sep := fun i j f g d e q e1 e2 _ _ => by
    have only : ∀ (i : Nat) (f : Bool) (d : D), (startM N.length d0 ds)[i]? = some (.ob f d) → i = 0 := fun i f d h => by
      unfold startM at h
      cases i with
      | zero => rfl
      | succ i =>
        rw [List.getElem?_cons_succ] at h
        by_cases hi : i < ds.length
        · rw [List.getElem?_append_left (by rw [List.length_map]; exact hi), List.getElem?_map] at h
          have hd : ds[i]? = some ds[i] := by simp [hi]
          rw [hd] at h
          cases h
        · rw [List.getElem?_append_right (by rw [List.length_map]; omega), List.getElem?_replicate] at h
          split at h <;> cases h
    rw [only i f d e1, only j g e e2]
  zM := fun q hq => by
    rw [List.mem_singleton] at hq
    subst hq
    obtain ⟨o, e⟩ := h4.isSome
    show H q ≠ none
    rw [e]
    exact fun z => nomatch z
  zB := h1
theorem fnM {T : List NdefX.NTab} {pre : List D → Prop} {post : List D → D → D → Prop} {N ps : List Str} {k : Nat} (F : FunD K x qual params body scope dvs kws f fd) (S : FnScope N ps scope) (hpre : ∀ ds, pre ds → ds.length = ps.length)
    (hb : ∀ (cdv : Value) (A : Around) (outer : List Env) (s : Shared) (H : Hp) (E : XK), Room k (A.deeper (envOfC qual scope s.heap.objs.size f cdv)) →
      ∃ t, PSs (cxOf CX0 P w K mg base N qual scope f cdv A outer s H E).nox body t ∧ ∀ (H B : Hp) (p : Addr) (d0 : D) (ds : List D), pre (d0 :: ds) → St ⟨w, H, B, [p], T⟩ t (startM N.length d0 ds) { nx := fun Γ => ∃ d1, Γ[0]? = some (.ob false d1) ∧ post (d0 :: ds) d1 .non, rt := fun r Γ => ∃ d1 d, r = .d d ∧ Γ[0]? = some (.ob false d1) ∧ post (d0 :: ds) d1 d }) :
    FnOk P w K mg base CX0 (k + 1) f fd ps (spM w T pre post) := by
  refine F.ok S (fun vs H Q E x => by obtain ⟨B, p, rest, d0, ds, rfl, _, _, _, _, _, r, hp, _⟩ := x; rw [List.length_cons, r.length]; exact hpre (d0 :: ds) hp) fun cdv A outer s H vs Q E hr h => ?_
  obtain ⟨B, p, rest, d0, ds, rfl, h1, h2, h3, h4, h5, r, hp, q⟩ := h
  obtain ⟨t, ht, hs⟩ := hb cdv A outer s H E hr
  have hz : L2.start N (.ref p :: rest) = some (.ref p) :: (L2.start N (.ref p :: rest)).tail := rfl
  have fin : ∀ {Γ : List Kd} {σ : L2.St} {H' B' : Hp} {d1 : D}, EnvOk ⟨w, H, B, [p], T⟩ Γ σ H' B' → Γ[0]? = some (.ob false d1) → GrowM T p H B H' B' ∧ Ob w B' H' p d1 := fun {Γ σ H' B' d1} I hg => by
    obtain ⟨v, g1, p', g2, g3, g4, g5⟩ := I.slot hg (fun z => nomatch z)
    cases g2
    rw [if_neg (by decide)] at g5
    have e : p' = p := List.mem_singleton.mp g5
    subst e
    exact ⟨⟨fun a o e n m => I.keepH a o e (fun z => n (List.mem_singleton.mp z)) m, I.there, I.keepB, I.sub, I.nt, I.apart, I.tabs⟩, g3⟩
  refine ⟨t, ht.nox, hs H B p d0 ds hp (L2.start N (.ref p :: rest)) H B (env_startM h1 h2 h3 h4 h5 r) _ ⟨?_, ?_, ?_, ?_⟩⟩
  · rintro σ H' B' Γ I _ ⟨d1, hg, hq⟩
    obtain ⟨g1, g2⟩ := fin I hg
    exact q .non .non d1 H' B' g1 g2 R.non hq
  · rintro σ H' B' Γ v r I _ hr ⟨d1, d, e, hg, hq⟩
    subst e
    obtain ⟨g1, g2⟩ := fin I hg
    exact q v d d1 H' B' g1 g2 hr hq
  · intro σ H' B' Γ I _ hq
    exact hq.elim
  · intro σ H' B' Γ I _ hq
    exact hq.elim
end
theorem EnvOk.growM {Z : Zn} {Γ : List Kd} {σ : L2.St} {H B H' B' : Hp} {i : Nat} {f : Bool} {d0 d1 : D} {p : Addr} (I : EnvOk Z Γ σ H B) (hg : Γ[i]? = some (.ob f d0)) (hσ : σ[i]? = some (some (.ref p))) (g : GrowM Z.T p H B H' B') (ho : Ob Z.w B' H' p d1) : EnvOk Z (Γ.set i (.ob f d1)) σ H' B' := by
  obtain ⟨v, h1, p', h2, h3, h4, h5⟩ := I.slot hg (fun z => nomatch z)
  rw [hσ] at h1
  cases h1
  cases h2
  have hi : i < Γ.length := (List.getElem?_eq_some_iff.mp hg).1
  have hp : H p ≠ none := by
    obtain ⟨o, e⟩ := h3.isSome
    rw [e]
    exact fun z => nomatch z
  refine ⟨fun a o e m n => g.keep a o (I.keepH a o e m n) (fun z => ?_) n, fun a e => g.there a (I.there a e), I.keepB.trans g.base, g.sub, g.nt, fun a e b => g.apart a (I.there a e) (I.apart a e b), g.tabs, by rw [List.length_set]; exact I.len, fun j k e => ?_, fun a b f' g' e f q e1 e2 e3 e4 => ?_, I.zM, I.zB⟩
  · subst z
    cases f with
    | true => rw [if_pos rfl] at h5; rw [h5] at e; cases e
    | false => rw [if_neg (by decide)] at h5; exact m h5
  · by_cases hj : i = j
    · subst hj
      rw [List.getElem?_set_self hi] at e
      cases e
      rw [hσ]
      exact ⟨p, rfl, ho, g.apart p hp h4, h5⟩
    · rw [List.getElem?_set_ne hj] at e
      have w := I.slots j k e
      cases k with
      | any => trivial
      | dat d => obtain ⟨v, e, r⟩ := w; exact ⟨v, e, r.mono g.base⟩
      | raw v => exact w
      | ob f2 d2 =>
        obtain ⟨p2, w1, w2, w3, w4⟩ := w
        have ne : p2 ≠ p := fun z => by
          subst z
          obtain ⟨v, g1, _⟩ := I.slot e (fun z => nomatch z)
          rw [g1] at w1
          cases w1
          exact hj (I.sep i j _ _ d0 d2 _ hg e hσ g1)
        have hp2 : H p2 ≠ none := by
          obtain ⟨o, e⟩ := w2.isSome
          rw [e]
          exact fun z => nomatch z
        exact ⟨p2, w1, w2.mono g.base fun u hu => g.keep p2 u hu ne (w2.nt hu), g.apart p2 hp2 w3, w4⟩
  · have back : ∀ (a : Nat) (g : Bool) (e : D), (Γ.set i (.ob f' d1))[a]? = some (.ob g e) → True := fun _ _ _ _ => trivial
    have back2 : ∀ (a : Nat) (x y : Bool) (e : D), (Γ.set i (.ob x d1))[a]? = some (.ob y e) → ∃ g' e', Γ[a]? = some (.ob g' e') := fun a x y e h => by
      by_cases hj : i = a
      · subst hj; exact ⟨_, d0, hg⟩
      · rw [List.getElem?_set_ne hj] at h; exact ⟨y, e, h⟩
    obtain ⟨_, _, r1⟩ := back2 a _ _ _ e1
    obtain ⟨_, _, r2⟩ := back2 b _ _ _ e2
    exact I.sep a b _ _ _ _ q r1 r2 e3 e4
section
variable {Z : Zn} {Γ : List Kd} {k : Rz → List Kd → Prop} {ta : TA}
/-- a call that hands out a new object -/
theorem ev_callN {w : World} {T : List NdefX.NTab} {pre : List D → Prop} {post : List D → D → Prop} {dvs : List V} {dds : List D} {E : XK} (hd : ∀ B, Rs w B dvs dds) (hw : Z.w = w) (hT : Z.T = T)
    (h : EvA Z ta Γ fun rs Γ1 => ∃ ds, unDs rs = some ds ∧ pre (ds ++ dds) ∧ ∀ d, post (ds ++ dds) d → k (.n d) Γ1) : Ev Z (tCall (spN w T pre post) dvs E ta) Γ k := fun σ H B I Q q =>
  h σ H B I _ fun rs Γ1 vs H1 B1 I1 s1 x1 ⟨ds, e, hp, kk⟩ => by
    have e2 := unDs_map e
    subst e2 hw hT
    refine ⟨B1, ds ++ dds, I1.sub, I1.nt, I1.tabs, (x1.datas).append (hd B1), hp, fun p d H' B' g o hb hh hq => ?_⟩
    exact q (.n d) Γ1 _ H' B' (I1.grow g) (s1.trans g.base) ⟨p, rfl, o, hb, (I1.none_of hh).2, fun i f d' e => I1.notSlot hh i f d' e⟩ (kk d hq)
/-- a call that changes an object of one's own -/
theorem ev_callM {w : World} {T : List NdefX.NTab} {pre : List D → Prop} {post : List D → D → D → Prop} {E : XK} (hw : Z.w = w) (hT : Z.T = T)
    (h : EvA Z ta Γ fun rs Γ1 => ∃ (i : Nat) (f : Bool) (d0 : D) (rs' : List Rz) (ds : List D), rs = .o i :: rs' ∧ unDs rs' = some ds ∧ Γ1[i]? = some (.ob f d0) ∧ pre (d0 :: ds) ∧ ∀ d1 d, post (d0 :: ds) d1 d → k (.d d) (Γ1.set i (.ob f d1))) : Ev Z (tCall (spM w T pre post) [] E ta) Γ k := fun σ H B I Q q =>
  h σ H B I _ fun rs Γ1 vs H1 B1 I1 s1 x1 ⟨i, f, d0, rs', ds, e, e2, hg, hp, kk⟩ => by
    have e3 := unDs_map e2
    subst e e3 hw hT
    cases x1 with
    | @cons v r vs rs a b c =>
      have hσ : σ[i]? = some (some v) := b Γ1 H1
      obtain ⟨v', h1, p, h2, h3, h4, h5⟩ := I1.slot hg (fun z => nomatch z)
      rw [hσ] at h1
      cases h1
      cases h2
      refine ⟨B1, p, vs ++ [], d0, ds, rfl, I1.sub, I1.nt, I1.tabs, h3, h4, by rw [List.append_nil]; exact c.datas, hp, fun v d d1 H' B' g o r hq => ?_⟩
      exact q (.d d) _ v H' B' (I1.growM hg hσ g o) (s1.trans g.base) r (kk d1 d hq)
end
end Gm
namespace Gm
open PySem PySem.Spec PyProof.Rows L2
section
variable {Z : Zn} {Γ : List Kd} {k : Rz → List Kd → Prop} {te ti : TE} {tt : TT} {g : TG} {α : Type}
/-- a comprehension, what is made told by a relation -/
theorem ev_lcR {wi : TI} {vs : List Nat} (hg : TgIn vs g) (hgm : TgM g)
    (h : ItD Z wi Γ fun ds Γ1 => ∃ (G : List D → List D → List Kd → Prop), ds.length ≤ 100000 ∧ G [] [] Γ1 ∧ (∀ m Γ, G ds m Γ → k (.n (.lst m)) Γ) ∧
      ∀ pre x post, ds = pre ++ x :: post → ∀ m Γ, G pre m Γ → freeAt vs Γ = true ∧ ∀ Ha, Tg { Z with H := Ha } g (.d x) (wipeK Γ vs) fun Γ2 => EvT { Z with H := Ha } tt Γ2 fun b Γ3 =>
        (b = true → Ev { Z with H := Ha } te Γ3 fun r Γ4 => ∃ d, r.fz = .d d ∧ G (pre ++ [x]) (m ++ [d]) (rst vs 0 Γ Γ4)) ∧ (b = false → G (pre ++ [x]) m (rst vs 0 Γ Γ3))) : Ev Z (tLc wi g tt te vs) Γ k := fun σ H B I Q q => by
  refine h σ H B I _ fun J ds Γ1 H1 B1 I1 s1 z ⟨G, hl, g0, gd, turn⟩ D0 hD => ?_
  obtain ⟨hB1, hZ⟩ := I1.none_of hD
  -- what holds between two turns
  let P : Nat → Hp → Prop := fun i H => ∃ Γ B xs m, EnvOk Z Γ σ H B ∧ Sb B1 B ∧ G (ds.take i) m Γ ∧ H D0 = some (.lst xs) ∧ B D0 = none ∧ (∀ (i : Nat) (f : Bool) (d : D), Γ[i]? = some (.ob f d) → σ[i]? ≠ some (some (.ref D0))) ∧ Rs Z.w B xs m ∧ xs.length ≤ i
  have p0 : P 0 (upd H1 D0 (.lst [])) := ⟨Γ1, B1, [], [], I1.free hD, Sb.refl _, g0, upd_same, hB1, fun i f d e => I1.notSlot hD i f d e, .nil, Nat.le_refl _⟩
  refine ⟨fun i m H => m = ds.length - i ∧ i ≤ ds.length ∧ P i H, ⟨_, rfl, Nat.zero_le _, p0⟩, ?_⟩
  rintro i mm H ⟨rfl, hi, Γ, B, xs, m, I, hb, gi, hDl, hDB2, hDs, hR, hx⟩
  by_cases hlt : i < ds.length
  · refine .inr ⟨z.go i H B hb I.sub hlt, P (i + 1), fun H' p => ⟨ds.length - (i + 1), by omega, rfl, hlt, p⟩, fun x H' y => ?_⟩
    obtain ⟨B', d, gr, hd, r⟩ := z.yld Z.T i H B x H' hlt hb I.sub I.nt I.tabs y
    have et : ds.take (i + 1) = ds.take i ++ [d] := by rw [List.take_add_one, hd]; rfl
    have ep : ds = ds.take i ++ d :: ds.drop (i + 1) := by
      have h2 : ds[i] = d := by rw [List.getElem?_eq_getElem hlt] at hd; exact Option.some.inj hd
      rw [← h2]
      simp
    have I' := I.grow gr
    have hD' : H' D0 = some (.lst xs) := gr.keep D0 _ hDl (fun _ z => nomatch z)
    have hDB' : B' D0 = none := gr.apart D0 (by rw [hDl]; exact fun z => nomatch z) hDB2
    obtain ⟨hf, tn⟩ := turn (ds.take i) d _ ep m Γ gi
    have I2 := (I'.inD hD' hDB' hDs).wipe vs
    have tgm : ∀ σ2 H2, (L2.wipe σ2 vs = L2.wipe σ vs ∧ ∃ Γ2, EnvOk { Z with H := upd Z.H D0 (.lst xs) } Γ2 σ2 H' B' ∧ H2 = H' ∧ EvT { Z with H := upd Z.H D0 (.lst xs) } tt Γ2 fun b Γ3 =>
        (b = true → Ev { Z with H := upd Z.H D0 (.lst xs) } te Γ3 fun r Γ4 => ∃ d', r.fz = .d d' ∧ G (ds.take i ++ [d]) (m ++ [d']) (rst vs 0 Γ Γ4)) ∧ (b = false → G (ds.take i ++ [d]) m (rst vs 0 Γ Γ3))) →
        tt σ2 H2 fun b H3 => if b = true then te σ2 H3 fun y H4 => ∃ acc, H4 D0 = some (HO.lst acc) ∧ acc.length < sizeLine ∧ P (i + 1) (upd H4 D0 (HO.lst (acc ++ [y]))) else P (i + 1) H3 := by
      rintro σ2 H2 ⟨hw, Γ2, J2, rfl, hT⟩
      refine hT σ2 _ B' J2 _ fun b Γ3 H3 B3 J3 s3 k3 => ?_
      cases b with
      | true =>
        rw [if_pos rfl]
        have k3' := ev_fz (Z := { Z with H := upd Z.H D0 (.lst xs) }) (k := fun r Γ4 => ∃ d', r = .d d' ∧ G (ds.take i ++ [d]) (m ++ [d']) (rst vs 0 Γ Γ4)) (k3.1 rfl)
        refine k3' σ2 H3 B3 J3 _ fun r Γ4 v H4 B4 J4 s4 x4 ⟨d', e, g1⟩ => ?_
        subst e
        obtain ⟨O1, O2, O3, O4⟩ := J4.outD (fun _ z => nomatch z) hZ I.zM I.zB
        have U := I'.unwipe O1 (s3.trans s4) hw hf
        have hlen : Γ.length = Γ4.length := by
          have l1 : σ2.length = σ.length := by rw [← wipe_length σ2 vs, hw, wipe_length]
          rw [I.len, O1.len, l1]
        have nsl := rst_ns hlen hw hf O4
        have hm : Sb B B4 := (gr.base.trans s3).trans s4
        refine ⟨xs, O2, Nat.lt_of_le_of_lt hx (Nat.lt_of_lt_of_le hlt (Nat.le_trans hl (by decide))), rst vs 0 Γ Γ4, B4, xs ++ [v], m ++ [d'], U.poke O2 O3 hZ nsl, hb.trans hm, by rw [et]; exact g1, upd_same, O3, nsl, ?_, by rw [List.length_append]; exact Nat.add_le_add_right hx 1⟩
        exact (hR.mono hm).append (.cons x4 .nil)
      | false =>
        rw [if_neg (by decide)]
        have g1 := k3.2 rfl
        obtain ⟨O1, O2, O3, O4⟩ := J3.outD (fun _ z => nomatch z) hZ I.zM I.zB
        have U := I'.unwipe O1 s3 hw hf
        have hlen : Γ.length = Γ3.length := by
          have l1 : σ2.length = σ.length := by rw [← wipe_length σ2 vs, hw, wipe_length]
          rw [I.len, O1.len, l1]
        have nsl := rst_ns hlen hw hf O4
        have hm : Sb B B3 := gr.base.trans s3
        exact ⟨rst vs 0 Γ Γ3, B3, xs, m, U, hb.trans hm, by rw [et]; exact g1, O2, O3, nsl, hR.mono hm, Nat.le_succ_of_le hx⟩
    have a := hg x (L2.wipe σ vs) H' _ (tn (upd Z.H D0 (.lst xs)) (L2.wipe σ vs) H' B' x I2 r
      (fun σ2 H2 => ∃ Γ2, EnvOk { Z with H := upd Z.H D0 (.lst xs) } Γ2 σ2 H' B' ∧ H2 = H' ∧ EvT { Z with H := upd Z.H D0 (.lst xs) } tt Γ2 fun b Γ3 =>
        (b = true → Ev { Z with H := upd Z.H D0 (.lst xs) } te Γ3 fun r Γ4 => ∃ d', r.fz = .d d' ∧ G (ds.take i ++ [d]) (m ++ [d']) (rst vs 0 Γ Γ4)) ∧ (b = false → G (ds.take i ++ [d]) m (rst vs 0 Γ Γ3)))
      fun Γ2 σ2 J2 k2 => ⟨Γ2, J2, rfl, k2⟩)
    rw [wipe_wipe] at a
    exact hgm _ _ _ _ _ (fun σ2 H2 ⟨hw, q0⟩ => ⟨hw, tgm σ2 H2 ⟨hw, q0⟩⟩) a
  · have e : i = ds.length := by omega
    subst e
    rw [List.take_length] at gi
    exact .inl ⟨z.stop H B hb I.sub, q (.n (.lst m)) Γ _ H B I (s1.trans hb) ⟨D0, rfl, ⟨xs, hDl, hR⟩, hDB2, hZ, hDs⟩ (gd m Γ gi)⟩
/-- .. its things of a type -/
theorem ev_lcRX {wi : TI} {vs : List Nat} (f : Nat → α → D) (l : List α) (G : List α → List D → List Kd → Prop) (hg : TgIn vs g) (hgm : TgM g)
    (h : ItD Z wi Γ fun ds Γ1 => ds.length ≤ 100000 ∧ IdxIs ds l f ∧ G [] [] Γ1 ∧ (∀ m Γ, G l m Γ → k (.n (.lst m)) Γ) ∧
      ∀ p x q, l = p ++ x :: q → ∀ m Γ, G p m Γ → freeAt vs Γ = true ∧ ∀ Ha, Tg { Z with H := Ha } g (.d (f p.length x)) (wipeK Γ vs) fun Γ2 => EvT { Z with H := Ha } tt Γ2 fun b Γ3 =>
        (b = true → Ev { Z with H := Ha } te Γ3 fun r Γ4 => ∃ d, r.fz = .d d ∧ G (p ++ [x]) (m ++ [d]) (rst vs 0 Γ Γ4)) ∧ (b = false → G (p ++ [x]) m (rst vs 0 Γ Γ3))) : Ev Z (tLc wi g tt te vs) Γ k := by
  refine ev_lcR hg hgm fun σ H B I Rr q => h σ H B I Rr fun J ds Γ' H' B' I' s z ⟨hn, hi, g0, gd, gs⟩ => q J ds Γ' H' B' I' s z ⟨fun pre m Γ => G (l.take pre.length) m Γ, hn, g0, fun m Γ gp => ?_, fun pre x post e m Γ gp => ?_⟩
  · have e2 : l.take ds.length = l := by rw [hi.len, List.take_length]
    simp only [e2] at gp
    exact gd m Γ gp
  · obtain ⟨y, e1, rfl, hy⟩ := idx_split hi e
    have hl := (List.getElem?_eq_some_iff.mp hy).1
    obtain ⟨h0, h1⟩ := gs (l.take pre.length) y _ e1 m Γ gp
    have e2 : (l.take pre.length).length = pre.length := by rw [List.length_take]; omega
    rw [e2] at h1
    have e3 : l.take (pre ++ [f pre.length y]).length = l.take pre.length ++ [y] := by
      rw [List.length_append, List.length_singleton, List.take_add_one, hy]; rfl
    simp only [e3]
    exact ⟨h0, h1⟩
/-- xs[n] = e, of a list of one's own -/
theorem st_putL {E : Eg} {i : Nat} (h : Ev Z te Γ fun r Γ1 => ∃ dv, r.fz = .d dv ∧ (∃ f d, Γ1[i]? = some (.ob f d)) ∧ Ev Z ti Γ1 fun r2 Γ2 => ∃ (f : Bool) (ds : List D) (n : Nat), vw Γ2 r2.fz = some (iD n) ∧ Γ2[i]? = some (.ob f (.lst ds)) ∧ n < ds.length ∧ E.nx (Γ2.set i (.ob f (.lst (ds.set n dv))))) : St Z (tAsg te (gSub (tVar i) ti rSetL)) Γ E := fun σ H B I D s => by
  have h' : Ev Z te Γ fun r Γ1 => ∃ dv, r = .d dv ∧ (∃ f d, Γ1[i]? = some (.ob f d)) ∧ Ev Z ti Γ1 fun r2 Γ2 => ∃ (f : Bool) (ds : List _) (n : Nat), vw Γ2 r2 = some (iD n) ∧ Γ2[i]? = some (.ob f (.lst ds)) ∧ n < ds.length ∧ E.nx (Γ2.set i (.ob f (.lst (ds.set n dv)))) :=
    ev_fz (h.imp fun r Γ1 ⟨dv, e, g, h1⟩ => ⟨dv, e, g, ev_fz h1⟩)
  refine h' σ H B I _ fun r Γ1 v H1 B1 I1 s1 x1 ⟨dv, e1, ⟨f0, d0, hg⟩, h1⟩ => ?_
  subst e1
  obtain ⟨vi, hσ, _⟩ := I1.slot hg (fun z => nomatch z)
  refine ⟨vi, hσ, h1 σ H1 B1 I1 _ fun r2 Γ2 v2 H2 B2 I2 s2 x2 ⟨f, ds, n, e2, g2, hn, kk⟩ => ?_⟩
  obtain ⟨p, xs, rfl, hp, r⟩ := slot_lst I2 g2 hσ
  have e3 := (vw_ok I2 x2 e2).int
  subst e3
  refine ⟨p, xs, n, n, rfl, rfl, hp, ?_, ?_⟩
  · have hl : n < xs.length := by rw [r.length]; exact hn
    unfold ixN
    rw [if_pos (Int.natCast_nonneg n), if_pos (by omega), Int.toNat_natCast]
  · exact s.nx σ _ B2 _ (I2.write (d' := .lst (ds.set n dv)) g2 hσ ⟨_, upd_same, Rs.set (R.mono s2 x1) n r⟩) (s1.trans s2) kk
end
end Gm
namespace Gm
open PySem PySem.Spec PyProof.Rows L2
/-- d.setdefault(k, []).append(x), the key new -/
theorem st_sdApp {Z : Zn} {Γ : List Kd} {tk : TE} {w : World} {K : PySem.W.Frag} {E : Eg} {i j : Nat} (hw : Z.w = w) (hi : ∃ f kvs, Γ[i]? = some (.ob f (.dN kvs)))
    (h : Ev Z tk Γ fun r1 Γ1 => ∃ dk f kvs dj, r1.fz = .d dk ∧ KeyOk dk ∧ Γ1[i]? = some (.ob f (.dN kvs)) ∧ kvs.length < 100000 ∧ atN kvs (kyD dk) = none ∧ Γ1[j]? = some (.dat dj) ∧ E.nx (Γ1.set i (.ob f (.dN (kvs ++ [(dk, .lst [dj])]))))) :
    St Z (tDrop (tBM K "list" rAppend (tSdN w (tVar i) tk (tLst tNil)) (tCons (tVar j) tNil))) Γ E := fun σ H B I D s => by
  subst hw
  have h' : Ev Z tk Γ fun r1 Γ1 => ∃ dk f kvs dj, r1 = .d dk ∧ KeyOk dk ∧ Γ1[i]? = some (.ob f (.dN kvs)) ∧ kvs.length < 100000 ∧ atN kvs (kyD dk) = none ∧ Γ1[j]? = some (.dat dj) ∧ E.nx (Γ1.set i (.ob f (.dN (kvs ++ [(dk, .lst [dj])])))) := ev_fz h
  obtain ⟨f0, kvs0, hg0⟩ := hi
  obtain ⟨v0, hσ, p0, e0, o0, _⟩ := I.slot hg0 (fun z => nomatch z)
  cases e0
  obtain ⟨o0', xs0, hp0, r0⟩ := ob_dN.mp o0
  refine ⟨.ref p0, hσ, ⟨p0, o0', xs0, rfl, hp0, r0.keys I.sub⟩, h' σ H B I _ fun r1 Γ1 v1 H1 B1 I1 s1 x1 ⟨dk, f, kvs, dj, e1, ok, hg, hl, hn, hj, kk⟩ => ?_⟩
  subst e1
  refine ⟨Nat.zero_le _, fun p hp => ?_⟩
  obtain ⟨v', g3, p', g4, g5, g6⟩ := I1.slot hg (fun z => nomatch z)
  rw [hσ] at g3
  cases g3
  cases g4
  obtain ⟨o, xs, hpo, r⟩ := ob_dN.mp g5
  have ne : p0 ≠ p := ne_of_none hpo hp
  have hs : Sb B1 (upd H1 p (.lst [])) := fun a u z => by rw [upd_ne (ne_of_none (I1.sub a u z) hp)]; exact I1.sub a u z
  obtain ⟨ka, rfl, ik⟩ := isK_of (H := upd H1 p (.lst [])) ok x1 hs
  have atn : atKey xs (kyD dk) = none := by
    rcases r.at (kyD dk) with ⟨h1, _⟩ | ⟨_, d', _, _, h2, _⟩
    · exact h1
    · rw [hn] at h2; cases h2
  refine ⟨_, ka, p0, o, xs, ik, rfl, (upd_ne ne).trans hpo, r.keys hs, by rw [r.len]; exact Nat.lt_of_lt_of_le hl (by decide), (fun q hq => by rw [atn] at hq; cases hq), fun _ o' u ru => ?_⟩
  obtain rfl : u = Value.ref p := ru
  obtain ⟨vj, hσj, vj', ej, rj⟩ := I1.slot hj (fun z => nomatch z)
  cases ej
  have hpl : upd (upd H1 p (.lst [])) p0 (DNo Z.w p0 o' (xs ++ [(kyD dk, ka, Value.ref p)])) p = some (.lst []) := (upd_ne ne.symm).trans upd_same
  refine ⟨.inl ⟨rfl, [], SqL.of hpl⟩, vj, hσj, p, [], vj, rfl, rfl, hpl, by decide, ?_⟩
  have I3 : EnvOk Z Γ1 σ (upd H1 p (.lst [vj])) (upd B1 p (.lst [vj])) := I1.new hp (fun _ z => nomatch z)
  have hB : Sb B1 (upd B1 p (.lst [vj])) := fun a u z => by rw [upd_ne (ne_of_none (I1.sub a u z) hp)]; exact z
  have eH : upd (upd (upd H1 p (.lst [])) p0 (DNo Z.w p0 o' (xs ++ [(kyD dk, ka, Value.ref p)]))) p (.lst ([] ++ [vj])) = upd (upd H1 p (.lst [vj])) p0 (DNo Z.w p0 o' (xs ++ [(kyD dk, ka, Value.ref p)])) := by
    funext a
    unfold upd
    by_cases h1 : a = p
    · subst h1
      rw [if_pos rfl, if_neg ne.symm, if_pos rfl]
      rfl
    · rw [if_neg h1]
      by_cases h2 : a = p0
      · rw [if_pos h2, if_pos h2]
      · rw [if_neg h2, if_neg h2, if_neg h1, if_neg h1]
  rw [eH]
  refine s.nx σ _ _ _ (I3.write (d' := .dN (kvs ++ [(dk, .lst [dj])])) hg hσ (ob_dN.mpr ⟨o', _, upd_same, (r.mono hB).app ok (R.mono hB x1) (v := .ref p) rfl (R.lst upd_same (.cons (R.mono hB rj) .nil))⟩)) (s1.trans hB) kk
end Gm
namespace Gm
open PySem PySem.Spec PyProof.Rows L2
/-! ### plain: lists -/
theorem sorted_eqI : ∀ {l m : List Int}, l.Pairwise (· < ·) → m.Pairwise (· < ·) → (∀ x, x ∈ l ↔ x ∈ m) → l = m
  | [], [], _, _, _ => rfl
  | [], b :: m, _, _, h => absurd ((h b).mpr List.mem_cons_self) (by simp)
  | a :: l, [], _, _, h => absurd ((h a).mp List.mem_cons_self) (by simp)
  | a :: l, b :: m, h1, h2, h => by
    obtain ⟨a1, a2⟩ := List.pairwise_cons.mp h1
    obtain ⟨b1, b2⟩ := List.pairwise_cons.mp h2
    have e : a = b := by
      have x1 := (h a).mp List.mem_cons_self
      have x2 := (h b).mpr List.mem_cons_self
      rcases List.mem_cons.mp x1 with r | r
      · exact r
      · rcases List.mem_cons.mp x2 with q | q
        · exact q.symm
        · have := b1 a r; have := a1 b q; omega
    subst e
    rw [sorted_eqI a2 b2 fun x => ?_]
    constructor
    · intro hx
      rcases List.mem_cons.mp ((h x).mp (List.mem_cons_of_mem _ hx)) with r | r
      · subst r; have := a1 x hx; omega
      · exact r
    · intro hx
      rcases List.mem_cons.mp ((h x).mpr (List.mem_cons_of_mem _ hx)) with r | r
      · subst r; have := b1 x hx; omega
      · exact r
theorem pw_map {l : List Nat} (h : l.Pairwise (· < ·)) : (l.map fun (n : Nat) => (n : Int)).Pairwise (· < ·) := by
  rw [List.pairwise_map]
  exact h.imp fun h => by omega
theorem map_cast_inj : ∀ {l m : List Nat}, (l.map fun (n : Nat) => (n : Int)) = m.map (fun (n : Nat) => (n : Int)) → l = m
  | [], [], _ => rfl
  | [], _ :: _, h => by simp at h
  | _ :: _, [], h => by simp at h
  | a :: l, b :: m, h => by
    simp only [List.map_cons, List.cons.injEq] at h
    rw [map_cast_inj h.2, Int.ofNat.inj h.1]
theorem sorted_eqN {l m : List Nat} (h1 : l.Pairwise (· < ·)) (h2 : m.Pairwise (· < ·)) (h : ∀ x, x ∈ l ↔ x ∈ m) : l = m := by
  refine map_cast_inj (sorted_eqI (pw_map h1) (pw_map h2) fun x => ?_)
  simp only [List.mem_map]
  constructor
  · rintro ⟨n, hn, rfl⟩; exact ⟨n, (h n).mp hn, rfl⟩
  · rintro ⟨n, hn, rfl⟩; exact ⟨n, (h n).mpr hn, rfl⟩
theorem nodup_len : ∀ (N : Nat) (l : List Nat), l.Nodup → (∀ x ∈ l, x < N) → l.length ≤ N
  | 0, l, _, h => by
    cases l with
    | nil => exact Nat.le_refl _
    | cons a l => exact absurd (h a List.mem_cons_self) (by omega)
  | N + 1, l, hn, h => by
    have h1 := nodup_len N (l.erase N) (hn.erase N) fun x hx => by
      have h2 := h x (List.mem_of_mem_erase hx)
      have h3 : x ≠ N := fun e => by
        subst e
        exact (List.Nodup.mem_erase_iff hn).mp hx |>.1 rfl
      omega
    have h2 : l.length ≤ (l.erase N).length + 1 := by
      rw [List.length_erase]
      split <;> omega
    omega
theorem nodup_sub {α β : Type} [DecidableEq α] : ∀ (l u : List α), l.Nodup → (∀ x ∈ l, x ∈ u) → l.length ≤ u.length
  | [], u, _, _ => Nat.zero_le _
  | a :: l, u, hn, h => by
    obtain ⟨h1, h2⟩ := List.nodup_cons.mp hn
    have h3 := nodup_sub (β := β) l (u.erase a) h2 fun x hx => by
      refine (List.mem_erase_of_ne fun e => h1 (by rw [← e]; exact hx)).mpr (h x (List.mem_cons_of_mem _ hx))
    have h4 := List.length_erase_of_mem (h a List.mem_cons_self)
    have h5 : 0 < u.length := List.length_pos_of_mem (h a List.mem_cons_self)
    simp only [List.length_cons]
    omega
theorem nodup_lenI {N : Nat} {l : List Int} (hn : l.Nodup) (h : ∀ x ∈ l, 0 ≤ x ∧ x < (N : Int)) : l.length ≤ N := by
  have h1 := nodup_len N (l.map Int.toNat) ?_ ?_
  · simpa using h1
  · have := List.Pairwise.imp_of_mem (R := (· ≠ ·)) (S := fun a b : Int => a.toNat ≠ b.toNat) (fun {a b} ha hb hab e => hab (by have := h a ha; have := h b hb; omega)) hn
    exact List.pairwise_map.mpr this
  · intro x hx
    obtain ⟨y, hy, rfl⟩ := List.mem_map.mp hx
    have := h y hy
    omega
/-! ### plain: machines -/
/-- the signs of a machine -/
def Mach.sig (m : Mach) : List Nat := (List.range' 97 26).filter fun c => m.st.any fun s => s.2.1 == c
/-- the set led to -/
def Mach.by (m : Mach) (rs : List Nat) (c : Nat) : List Nat := (List.range m.n).filter fun t => m.st.any fun s => s.2.1 == c && decide (s.1 ∈ rs) && s.2.2 == t
def txt (n : Nat) (rs : List Nat) : Str := mkS ((List.range n).map fun i => if i ∈ rs then 49 else 48)
theorem range'_pw : ∀ (n s : Nat), (List.range' s n).Pairwise (· < ·)
  | 0, s => .nil
  | n + 1, s => by
    rw [List.range'_succ]
    refine List.pairwise_cons.mpr ⟨fun x hx => ?_, range'_pw n (s + 1)⟩
    have := List.mem_range'_1.mp hx
    omega
theorem range_pw (n : Nat) : (List.range n).Pairwise (· < ·) := by rw [List.range_eq_range']; exact range'_pw n 0
theorem Mach.sig_pw (m : Mach) : m.sig.Pairwise (· < ·) := (range'_pw 26 97).filter _
theorem Mach.by_pw (m : Mach) (rs : List Nat) (c : Nat) : (m.by rs c).Pairwise (· < ·) := (range_pw _).filter _
theorem Mach.by_lt {m : Mach} {rs : List Nat} {c x : Nat} (h : x ∈ m.by rs c) : x < m.n := List.mem_range.mp (List.mem_filter.mp h).1
theorem Mach.mem_by {m : Mach} (hm : m.Ok) {rs : List Nat} {c x : Nat} : x ∈ m.by rs c ↔ ∃ r ∈ rs, (r, c, x) ∈ m.st := by
  unfold Mach.by
  rw [List.mem_filter, List.mem_range, List.any_eq_true]
  constructor
  · rintro ⟨_, ⟨a, b, d⟩, hs, h⟩
    simp only [Bool.and_eq_true, beq_iff_eq, decide_eq_true_eq] at h
    obtain ⟨⟨rfl, h2⟩, rfl⟩ := h
    exact ⟨a, h2, hs⟩
  · rintro ⟨r, hr, hs⟩
    exact ⟨(hm.stN _ hs).2.2, (r, c, x), hs, by simp [hr]⟩
theorem Mach.mem_sig {m : Mach} (hm : m.Ok) {c : Nat} : c ∈ m.sig ↔ ∃ s ∈ m.st, s.2.1 = c := by
  unfold Mach.sig
  rw [List.mem_filter, List.any_eq_true, List.mem_range'_1]
  constructor
  · rintro ⟨_, s, hs, h⟩
    exact ⟨s, hs, by simpa using h⟩
  · rintro ⟨s, hs, rfl⟩
    have := (hm.stN _ hs).2.1
    obtain ⟨h1, h2⟩ := this
    exact ⟨⟨h1, by omega⟩, s, hs, by simp⟩
theorem Mach.sig_L {m : Mach} {c : Nat} (h : c ∈ m.sig) : isL c := by
  have := List.mem_range'_1.mp (List.mem_filter.mp h).1
  exact ⟨this.1, by have := this.2; omega⟩
theorem txt_len (n : Nat) (rs : List Nat) : (txt n rs).length = n := by
  show (mkS _).cps.size = n
  simp [mkS]
theorem flat_s1 (l : List Nat) : ((l.map s1).map fun y => y.cps.toList).flatten = l := by
  induction l with
  | nil => rfl
  | cons a l ih => rw [List.map_cons, List.map_cons, List.flatten_cons, ih]; rfl
/-- signs put together -/
theorem join_s1 (l : List Nat) : Txt.join Str.empty (l.map s1) = mkS l := by rw [join_empty, flat_s1]
theorem sum_s1 (l : List Nat) : ((l.map s1).map (·.length)).sum = l.length := by
  induction l with
  | nil => rfl
  | cons a l ih => rw [List.map_cons, List.map_cons, List.sum_cons, ih, List.length_cons]; show 1 + _ = _; omega
theorem iD_inj {a b : Nat} (h : iD a = iD b) : a = b := by
  unfold iD at h
  injection h with h
  exact Int.ofNat.inj h
theorem sg_inj {a b : Nat} (h : sg a = sg b) : a = b := by
  unfold sg at h
  injection h with h
  exact s1_inj h
theorem stD_inj {a b : Nat × Nat × Nat} (h : stD a = stD b) : a = b := ky_step (by rw [h])
theorem map_inj {α β : Type} {f : α → β} (hf : ∀ a b, f a = f b → a = b) : ∀ {l m : List α}, l.map f = m.map f → l = m
  | [], [], _ => rfl
  | [], _ :: _, h => by simp at h
  | _ :: _, [], h => by simp at h
  | a :: l, b :: m, h => by
    simp only [List.map_cons, List.cons.injEq] at h
    rw [map_inj hf h.2, hf _ _ h.1]
theorem iLs_inj {a b : List Nat} (h : iLs a = iLs b) : a = b := by
  unfold iLs at h
  injection h with h
  exact map_inj (fun _ _ => iD_inj) h
theorem iTs_inj {a b : List Nat} (h : iTs a = iTs b) : a = b := by
  unfold iTs at h
  injection h with h
  exact map_inj (fun _ _ => iD_inj) h
theorem Mach.d_inj {m m' : Mach} (h : m.d = m'.d) : m = m' := by
  obtain ⟨a, b, c, d⟩ := m
  obtain ⟨a', b', c', d'⟩ := m'
  unfold Mach.d at h
  injection h with h
  simp only [List.cons.injEq, and_true, D.lst.injEq] at h
  obtain ⟨h1, h2, h3, h4⟩ := h
  rw [iD_inj h1, iLs_inj h2, iLs_inj h3, map_inj (fun _ _ => stD_inj) h4]
theorem op_inLT {Z : Zn} {Γ : List Kd} {k : Rz → List Kd → Prop} {K : PySem.W.Frag} {r1 r2 : Rz} {i : Nat} {l : List Nat} {rd : D} (e1 : vw Γ r1 = some (iD i)) (e2 : vw Γ r2 = some rd) (h : rd = iTs l ∨ rd = iLs l) (hk : k (.d (.bl (decide (i ∈ l)))) Γ) : Op2 Z (rIn K false) r1 r2 Γ k := by
  rcases h with h | h
  · subst h
    have e : (l.map iD) = (l.map fun (n : Nat) => (n : Int)).map D.int := by rw [List.map_map]; rfl
    have h : decide ((i : Int) ∈ (l.map fun (n : Nat) => (n : Int))) = decide (i ∈ l) := by
      apply decide_eq_decide.mpr
      rw [List.mem_map]
      constructor
      · rintro ⟨n, hn, h⟩
        have : n = i := by omega
        subst this; exact hn
      · intro h; exact ⟨i, h, rfl⟩
    refine op_inI (neg := false) (i := (i : Int)) (ns := l.map fun (n : Nat) => (n : Int)) (.inr rfl) e1 (e2.trans (by unfold iTs; rw [e])) ?_
    rw [h]
    exact hk
  · subst h
    exact op_inL (neg := false) e1 e2 hk
theorem eqS1 (a b : Nat) : decide (s1 a = s1 b) = (a == b) := by
  by_cases h : a = b
  · subst h; simp
  · rw [decide_eq_false (fun e => h (s1_inj e))]; simp [h]
end Gm
namespace Gm
open PySem PySem.Spec PyProof.Rows L2
def Mach.Closed (m : Mach) (U : List (List Nat)) : Prop := ∀ S ∈ U, ∀ c ∈ m.sig, m.by S c ∈ U
/-- a set that is come to -/
def Mach.Rc (m : Mach) (S : List Nat) : Prop := ∀ U, m.fs ∈ U → m.Closed U → S ∈ U
structure Mach.Row (m : Mach) (row : List (List Nat)) : Prop where
  first : row[0]? = some m.fs
  nodup : row.Nodup
  closed : m.Closed row
  rc : ∀ S ∈ row, m.Rc S
def numOf (row : List (List Nat)) (S : List Nat) : Nat := row.idxOf S
def Mach.tell (m : Mach) (row : List (List Nat)) (S : List Nat) : D := .tup [.str (txt m.n S), .lst (m.sig.map fun c => .tup [sg c, iD (numOf row (m.by S c))])]
theorem numOf_app {row : List (List Nat)} {S : List Nat} (h : S ∈ row) (x : List (List Nat)) : numOf (row ++ x) S = numOf row S := by
  unfold numOf
  rw [List.idxOf_append, if_pos h]
theorem numOf_new {row : List (List Nat)} {S : List Nat} (h : S ∉ row) : numOf (row ++ [S]) S = row.length := by
  unfold numOf
  rw [List.idxOf_append, if_neg h]
  simp
theorem tell_app {m : Mach} {row : List (List Nat)} {S : List Nat} (h : ∀ c ∈ m.sig, m.by S c ∈ row) (x : List (List Nat)) : m.tell (row ++ x) S = m.tell row S := by
  unfold Mach.tell
  have : (m.sig.map fun c => D.tup [sg c, iD (numOf (row ++ x) (m.by S c))]) = m.sig.map fun c => D.tup [sg c, iD (numOf row (m.by S c))] :=
    List.map_congr_left fun c hc => by rw [numOf_app (h c hc)]
  rw [this]
def numD (row : List (List Nat)) : List (D × D) := row.zipIdx.map fun p => (iTs p.1, iD p.2)
theorem numD_app (row : List (List Nat)) (S : List Nat) : numD (row ++ [S]) = numD row ++ [(iTs S, iD row.length)] := by
  unfold numD
  rw [List.zipIdx_append, List.map_append]
  simp
theorem kyDs_map : ∀ ds : List D, kyDs ds = ds.map kyD
  | [] => rfl
  | d :: ds => by rw [kyDs, kyDs_map ds]; rfl
theorem ky_iTs {a b : List Nat} (h : kyD (iTs a) = kyD (iTs b)) : a = b := by
  unfold iTs at h
  simp only [kyD, kyDs_map, NestedKey.tup.injEq, List.map_map] at h
  exact map_inj (fun a b h => by
    simp only [Function.comp, iD, kyD, NestedKey.num.injEq] at h
    exact Int.ofNat.inj h) h
theorem hs_ints : ∀ l : List Nat, hsDs (l.map iD) = true
  | [] => rfl
  | a :: l => by rw [List.map_cons, hsDs, hs_ints l]; rfl
theorem depth_ints : ∀ l : List Nat, NestedKey.depthAll (kyDs (l.map iD)) = 0
  | [] => by simp [kyDs, NestedKey.depthAll]
  | a :: l => by rw [List.map_cons, kyDs, NestedKey.depthAll, depth_ints l]; simp [iD, kyD, NestedKey.depth]
theorem keyOk_iTs (l : List Nat) : KeyOk (iTs l) := ⟨⟨_, rfl⟩, hs_ints l, by
  unfold iTs
  rw [kyD, NestedKey.depth, depth_ints]
  decide⟩
theorem atN_new {row : List (List Nat)} {S : List Nat} (h : S ∉ row) : atN (numD row) (kyD (iTs S)) = none := by
  unfold numD
  refine atN_none (f := fun p : List Nat × Nat => iTs p.1) (g := fun p => iD p.2) fun p hp z => h ?_
  rw [← ky_iTs z]
  obtain ⟨a, i⟩ := p
  exact List.fst_mem_of_mem_zipIdx hp
theorem atN_old {row : List (List Nat)} {S : List Nat} (hn : row.Nodup) (h : S ∈ row) : atN (numD row) (kyD (iTs S)) = some (iD (numOf row S)) := by
  have hl : row.idxOf S < row.length := List.idxOf_lt_length_of_mem h
  have hg : row[row.idxOf S]? = some S := by rw [List.getElem?_eq_getElem hl, List.getElem_idxOf]
  unfold numD
  refine atN_some (f := fun p : List Nat × Nat => iTs p.1) (g := fun p => iD p.2) (b := (S, row.idxOf S)) ?_ ?_
  · rw [List.mem_zipIdx_iff_getElem?]
    exact hg
  · rintro ⟨a, i⟩ ha z
    have e := ky_iTs z
    subst e
    rw [List.mem_zipIdx_iff_getElem?] at ha
    have hi := (List.getElem?_eq_some_iff.mp ha).1
    have := (List.getElem_inj (h₀ := hi) (h₁ := hl) hn).mp (by
      have h1 := (List.getElem?_eq_some_iff.mp ha).2
      have h2 := (List.getElem?_eq_some_iff.mp hg).2
      rw [h1, h2])
    exact Prod.ext rfl this
theorem numD_len (row : List (List Nat)) : (numD row).length = row.length := by unfold numD; rw [List.length_map, List.length_zipIdx]
theorem numD_put {row : List (List Nat)} {S : List Nat} (h : S ∉ row) : stN (numD row) (iTs S) (.int ((row.map iTs).length : Int)) = numD (row ++ [S]) := by
  rw [stN_new (atN_new h), numD_app, List.length_map]
  rfl
def subs {α : Type} : List α → List (List α)
  | [] => [[]]
  | a :: l => subs l ++ (subs l).map (a :: ·)
theorem subs_len {α : Type} : ∀ l : List α, (subs l).length = 2 ^ l.length
  | [] => rfl
  | a :: l => by
    unfold subs
    rw [List.length_append, List.length_map, subs_len l, List.length_cons, Nat.pow_succ]
    omega
theorem subs_filter {α : Type} (p : α → Bool) : ∀ l : List α, l.filter p ∈ subs l
  | [] => List.mem_cons_self
  | a :: l => by
    unfold subs
    by_cases h : p a = true
    · rw [List.filter_cons_of_pos h]
      exact List.mem_append_right _ (List.mem_map_of_mem (subs_filter p l))
    · rw [List.filter_cons_of_neg h]
      exact List.mem_append_left _ (subs_filter p l)
theorem subs_sub {α : Type} : ∀ {l T : List α}, T ∈ subs l → ∀ x ∈ T, x ∈ l
  | [], T, h, x, hx => by
    rw [subs, List.mem_singleton] at h
    subst h
    exact hx
  | a :: l, T, h, x, hx => by
    unfold subs at h
    rcases List.mem_append.mp h with h | h
    · exact List.mem_cons_of_mem _ (subs_sub h x hx)
    · obtain ⟨T', h1, rfl⟩ := List.mem_map.mp h
      rcases List.mem_cons.mp hx with rfl | hx
      · exact List.mem_cons_self
      · exact List.mem_cons_of_mem _ (subs_sub h1 x hx)
theorem sorted_sub {n : Nat} {l : List Nat} (h1 : l.Pairwise (· < ·)) (h2 : ∀ x ∈ l, x < n) : l ∈ subs (List.range n) := by
  have e : l = (List.range n).filter fun x => decide (x ∈ l) := sorted_eqN h1 ((range_pw n).filter _) fun x => by
    rw [List.mem_filter, List.mem_range]
    constructor
    · intro h; exact ⟨h2 x h, decide_eq_true h⟩
    · intro h; exact of_decide_eq_true h.2
  rw [e]
  exact subs_filter _ _
theorem Mach.Ok.closed_subs {m : Mach} (hm : m.Ok) : m.fs ∈ subs (List.range m.n) ∧ m.Closed (subs (List.range m.n)) := ⟨sorted_sub hm.fsS hm.fsN, fun T hT c hc => subs_filter _ _⟩
theorem Mach.Ok.rc_lt {m : Mach} (hm : m.Ok) {S : List Nat} (h : m.Rc S) : ∀ r ∈ S, r < m.n := fun r hr =>
  List.mem_range.mp (subs_sub (h _ hm.closed_subs.1 hm.closed_subs.2) r hr)
theorem itD_map {α : Type} {l : List α} {f : α → D} {i : Nat} {x : α} (h : l[i]? = some x) : itD (.lst (l.map f)) (i : Int) = some (f x) := by
  have hl := (List.getElem?_eq_some_iff.mp h).1
  show atI (l.map f) (i : Int) = some (f x)
  unfold atI ixN
  rw [if_pos (Int.natCast_nonneg i), if_pos (by rw [List.length_map]; omega)]
  simp [h]
end Gm
namespace Gm
open PySem PySem.Spec PyProof.Rows L2
/-- come to, along the edges E from rs -/
def Rch (E : List (Nat × Nat)) (rs : List Nat) (x : Nat) : Prop := ∀ U : Nat → Prop, (∀ r ∈ rs, U r) → (∀ e ∈ E, U e.1 → U e.2) → U x
def edD (e : Nat × Nat) : D := .tup [iD e.1, iD e.2]
theorem edD_inj {a b : Nat × Nat} (h : edD a = edD b) : a = b := by
  unfold edD at h
  injection h with h
  simp only [List.cons.injEq, and_true] at h
  exact Prod.ext (iD_inj h.1) (iD_inj h.2)
def keysD (ks : List Nat) : List (Int × D) := ks.map fun (k : Nat) => ((k : Int), D.bl true)
theorem gI_keys (ks : List Nat) (x : Nat) : (gI (keysD ks) (x : Int)).isSome = decide (x ∈ ks) := by
  unfold gI keysD
  induction ks with
  | nil => rfl
  | cons a ks ih =>
    rw [List.map_cons]
    by_cases h : a = x
    · subst h
      rw [List.find?_cons_of_pos (by simp)]
      simp
    · rw [List.find?_cons_of_neg (by simp; omega), ih]
      have : ¬ x = a := fun e => h e.symm
      simp [this]
theorem sI_keys {ks : List Nat} {x : Nat} (h : x ∉ ks) : sI (keysD ks) (x : Int) (.bl true) = keysD (ks ++ [x]) := by
  unfold sI
  rw [if_neg]
  · unfold keysD; rw [List.map_append]; rfl
  · unfold keysD
    rw [List.any_map, List.any_eq_true]
    rintro ⟨k, h1, h2⟩
    simp only [Function.comp, decide_eq_true_eq] at h2
    have : k = x := by omega
    subst this
    exact h h1
theorem sh_iLs (l : List Nat) : Sh 60 (iLs l) := sh_lst (n := 59) fun d hd => by
  obtain ⟨n, _, rfl⟩ := List.mem_map.mp hd
  exact sh_int _
theorem sh_nil : Sh 60 (.lst []) := sh_lst (n := 59) fun d hd => by cases hd
theorem eqD_iLs (l : List Nat) : eqD (iLs l) (.lst []) = l.isEmpty := by unfold iLs; rw [eqD_nil]; cases l <;> rfl
theorem iLs_snoc (l : List Nat) (x : Nat) : iLs (l ++ [x]) = .lst (l.map iD ++ [iD x]) := by unfold iLs; rw [List.map_append]; rfl
theorem eqN (a b : Nat) : decide ((a : Int) = (b : Int)) = decide (a = b) := decide_eq_decide.mpr Int.natCast_inj
theorem snoc_of {α : Type} {l : List α} (h : l ≠ []) : ∃ p x, l = p ++ [x] := ⟨l.dropLast, l.getLast h, (List.dropLast_concat_getLast h).symm⟩
open Classical in
noncomputable def Mach.use (m : Mach) : List Nat := (List.range m.n).filter fun r => decide (Rch (m.st.map fun s => (s.1, s.2.2)) m.fs r) && decide (Rch (m.st.map fun s => (s.2.2, s.1)) m.ls r)
noncomputable def Mach.trim (m : Mach) : Mach := ⟨m.n, m.fs.filter fun r => decide (r ∈ m.use), m.ls.filter fun r => decide (r ∈ m.use), m.st.filter fun s => decide (s.1 ∈ m.use) && decide (s.2.2 ∈ m.use)⟩
theorem Mach.Ok.trim {m : Mach} (h : m.Ok) : m.trim.Ok := ⟨h.n1, h.n2, h.fsS.filter _, fun r hr => h.fsN r (List.mem_filter.mp hr).1, h.lsS.filter _, fun r hr => h.lsN r (List.mem_filter.mp hr).1, fun s hs => h.stN s (List.mem_filter.mp hs).1, h.stD.filter _, Nat.le_trans (List.length_filter_le _ _) h.stL⟩
theorem Mach.use_pw (m : Mach) : m.use.Pairwise (· < ·) := (range_pw _).filter _
theorem Mach.use_lt {m : Mach} {r : Nat} (h : r ∈ m.use) : r < m.n := List.mem_range.mp (List.mem_filter.mp h).1
theorem Mach.use_len (m : Mach) (h : m.Ok) : m.use.length ≤ 12 := by
  have h1 := List.length_filter_le (fun r => @decide (Rch (m.st.map fun s => (s.1, s.2.2)) m.fs r) (Classical.propDecidable _) && @decide (Rch (m.st.map fun s => (s.2.2, s.1)) m.ls r) (Classical.propDecidable _)) (List.range m.n)
  rw [List.length_range] at h1
  exact Nat.le_trans h1 h.n2
end Gm
namespace Gm
open PySem PySem.Spec PyProof.Rows L2
/-- a list by its places -/
def vD (n : Nat) (f : Nat → Nat) : D := iLs ((List.range n).map f)
def ind (rs : List Nat) (i : Nat) : Nat := if i ∈ rs then 1 else 0
/-- one sign on -/
def mv (st : List (Nat × Nat × Nat)) (v : Nat → Nat) (c : Nat) (t : Nat) : Nat := (st.filter fun s => s.2.1 == c && s.2.2 == t).foldl (fun a s => a + v s.1) 0
def Mach.ways (m : Mach) (ws : List Nat) : Nat := (m.ls.map (ws.foldl (mv m.st) (ind m.fs))).sum
theorem mv_snoc (q : List (Nat × Nat × Nat)) (x : Nat × Nat × Nat) (v : Nat → Nat) (c t : Nat) : mv (q ++ [x]) v c t = if x.2.1 = c ∧ x.2.2 = t then mv q v c t + v x.1 else mv q v c t := by
  unfold mv
  rw [List.filter_append, List.foldl_append]
  by_cases h : x.2.1 = c ∧ x.2.2 = t
  · rw [if_pos h, List.filter_cons_of_pos (by simp [h.1, h.2])]
    rfl
  · rw [if_neg h, List.filter_cons_of_neg (by
      intro z
      simp only [Bool.and_eq_true, beq_iff_eq] at z
      exact h z)]
    rfl
theorem vD_get {n i : Nat} (f : Nat → Nat) (h : i < n) : ((List.range n).map f)[i]? = some (f i) := by
  rw [List.getElem?_map, List.getElem?_range h]
  rfl
theorem iD_add (a b : Nat) : D.int ((a : Int) + (b : Int)) = iD (a + b) := by
  unfold iD
  rw [Int.natCast_add]
theorem vD_set {n i : Nat} (f : Nat → Nat) (y : Nat) : (((List.range n).map f).map iD).set i (iD y) = ((List.range n).map fun j => if j = i then y else f j).map iD := by
  rw [List.map_map, List.map_map]
  apply List.ext_getElem?
  intro j
  rw [List.getElem?_set]
  by_cases hj : j < n
  · by_cases h : i = j
    · subst h
      simp [hj]
    · have h' : ¬ j = i := fun e => h e.symm
      simp [h, h', hj]
  · have h1 : ((List.range n).map (iD ∘ fun j => if j = i then y else f j))[j]? = none := List.getElem?_eq_none (by simp; omega)
    have h2 : ((List.range n).map (iD ∘ f))[j]? = none := List.getElem?_eq_none (by simp; omega)
    rw [h1]
    by_cases h : i = j
    · subst h
      rw [if_pos rfl, if_neg (by simp; omega)]
    · rw [if_neg h, h2]
theorem vD_ext {n : Nat} {f g : Nat → Nat} (h : ∀ i, i < n → f i = g i) : vD n f = vD n g := by
  unfold vD
  rw [List.map_congr_left fun i hi => h i (List.mem_range.mp hi)]
theorem vD_zero (n : Nat) : D.lst (List.replicate n (iD 0)) = vD n fun _ => 0 := by
  unfold vD iLs
  rw [List.map_map]
  refine congrArg D.lst ?_
  apply List.ext_getElem?
  intro j
  by_cases hj : j < n
  · simp [hj]
  · rw [List.getElem?_eq_none (by simp; omega), List.getElem?_eq_none (by simp; omega)]
theorem mkS_inj {a b : List Nat} (h : mkS a = mkS b) : a = b := by
  have := congrArg (fun s : Str => s.cps.toList) h
  simpa [mkS] using this
theorem vD_inj {n : Nat} {f g : Nat → Nat} (h : vD n f = vD n g) : ∀ i, i < n → f i = g i := fun i hi => by
  have h1 := iLs_inj h
  have h2 := vD_get f hi
  rw [h1, vD_get g hi] at h2
  exact (Option.some.inj h2).symm
theorem mv_ext {m : Mach} (hm : m.Ok) {v v' : Nat → Nat} (h : ∀ i, i < m.n → v i = v' i) (c : Nat) : mv m.st v c = mv m.st v' c := by
  funext t
  unfold mv
  have key : ∀ (l : List (Nat × Nat × Nat)) (z : Nat), (∀ s ∈ l, s.1 < m.n) → l.foldl (fun a s => a + v s.1) z = l.foldl (fun a s => a + v' s.1) z := by
    intro l
    induction l with
    | nil => intro z _; rfl
    | cons a l ih =>
      intro z hl
      rw [List.foldl_cons, List.foldl_cons, h _ (hl a List.mem_cons_self)]
      exact ih _ fun s hs => hl s (List.mem_cons_of_mem _ hs)
  exact key _ _ fun s hs => (hm.stN s (List.mem_filter.mp hs).1).1
theorem fold_ext {m : Mach} (hm : m.Ok) {v v' : Nat → Nat} (h : ∀ i, i < m.n → v i = v' i) (ws : List Nat) : vD m.n (ws.foldl (mv m.st) v) = vD m.n (ws.foldl (mv m.st) v') := by
  cases ws with
  | nil => exact vD_ext h
  | cons c ws => rw [List.foldl_cons, List.foldl_cons, mv_ext hm h]
theorem vD_len {n n' : Nat} {f f' : Nat → Nat} (h : vD n f = vD n' f') : n = n' := by
  have := congrArg List.length (iLs_inj h)
  simpa using this
theorem sum_cast (l : List Nat) : (l.map fun (n : Nat) => (n : Int)).sum = ((l.sum : Nat) : Int) := by
  induction l with
  | nil => rfl
  | cons a l ih => rw [List.map_cons, List.sum_cons, List.sum_cons, ih, Int.natCast_add]
theorem it_strG {Z : Zn} {Γ : List Kd} {te : TE} {K : PySem.W.Frag} {k : List D → List Kd → Prop} (h : Ev Z te Γ fun r Γ1 => ∃ s, unD r = some (.str s) ∧ k ((chars s).map D.str) Γ1) : ItD Z (iSeq K te) Γ k := it_str (h.imp fun r Γ1 ⟨s, e, kk⟩ => ⟨s, unD_d e, kk⟩)
theorem idx_str (l : List Nat) : IdxIs ((chars (mkS l)).map D.str) l (fun _ c => sg c) := by rw [chars_mk]; exact idx_map sg
end Gm
namespace Gm
open PySem PySem.Spec PyProof.Rows L2
def bsig (a b : Mach) : List Nat := (List.range' 97 26).filter fun c => decide (c ∈ a.sig) || decide (c ∈ b.sig)
theorem bsig_pw (a b : Mach) : (bsig a b).Pairwise (· < ·) := (range'_pw 26 97).filter _
theorem mem_bsig {a b : Mach} {c : Nat} : c ∈ bsig a b ↔ c ∈ a.sig ∨ c ∈ b.sig := by
  unfold bsig
  rw [List.mem_filter]
  constructor
  · rintro ⟨_, h⟩
    simpa using h
  · intro h
    refine ⟨?_, by simpa using h⟩
    have : isL c := h.elim Mach.sig_L Mach.sig_L
    obtain ⟨h1, h2⟩ := this
    exact List.mem_range'_1.mpr (by omega)
theorem sig26 (m : Mach) : m.sig.length ≤ 26 := by
  have := List.length_filter_le (fun c => m.st.any fun s => s.2.1 == c) (List.range' 97 26)
  rw [List.length_range'] at this
  exact this
theorem bsig26 (a b : Mach) : (bsig a b).length ≤ 26 := by
  have := List.length_filter_le (fun c => decide (c ∈ a.sig) || decide (c ∈ b.sig)) (List.range' 97 26)
  rw [List.length_range'] at this
  exact this
def Mach.isLast (m : Mach) (rs : List Nat) : Bool := rs.any fun r => decide (r ∈ m.ls)
abbrev Pr := List Nat × List Nat
def pdD (p : Pr) : D := .tup [iTs p.1, iTs p.2]
theorem ky_pdD {p q : Pr} (h : kyD (pdD p) = kyD (pdD q)) : p = q := by
  unfold pdD at h
  simp only [kyD, kyDs, NestedKey.tup.injEq, List.cons.injEq, and_true] at h
  exact Prod.ext (ky_iTs h.1) (ky_iTs h.2)
theorem keyOk_pdD (p : Pr) : KeyOk (pdD p) := ⟨⟨_, rfl⟩, by
  show hsDs [iTs p.1, iTs p.2] = true
  unfold iTs
  rw [hsDs, hsDs, hsD, hsD, hs_ints, hs_ints]
  rfl, by
  unfold pdD iTs
  rw [kyD, kyDs, kyDs, kyDs, kyD, kyD, NestedKey.depth, NestedKey.depthAll, NestedKey.depthAll, NestedKey.depthAll, NestedKey.depth, NestedKey.depth, depth_ints, depth_ints]
  decide⟩
def PClosed (a b : Mach) (V : List Pr) : Prop := ∀ p ∈ V, ∀ c ∈ bsig a b, (a.by p.1 c, b.by p.2 c) ∈ V
structure PRow (a b : Mach) (row : List Pr) : Prop where
  first : (a.fs, b.fs) ∈ row
  nodup : row.Nodup
  closed : PClosed a b row
  rc : ∀ p ∈ row, ∀ V, (a.fs, b.fs) ∈ V → PClosed a b V → p ∈ V
def prD (p : Pr × List Nat) : D := .tup [pdD p.1, .str (mkS p.2)]
theorem itD_last {α : Type} {l : List α} {f : α → D} {x : α} : itD (.lst ((l ++ [x]).map f)) (-1) = some (f x) := by
  show atI ((l ++ [x]).map f) (-1) = some (f x)
  unfold atI ixN
  rw [if_neg (by decide), if_pos (by rw [List.length_map, List.length_append, List.length_singleton]; omega)]
  have : ((-1 : Int) + (((l ++ [x]).map f).length : Int)).toNat = l.length := by
    rw [List.length_map, List.length_append, List.length_singleton]
    omega
  rw [this]
  simp
theorem mkS_app (a : List Nat) (c : Nat) : mkS a ++ s1 c = mkS (a ++ [c]) := by
  show Str.append (mkS a) (s1 c) = _
  unfold Str.append mkS s1
  simp
theorem mkS_len (l : List Nat) : (mkS l).length = l.length := by
  show (mkS l).cps.size = _
  simp [mkS]
theorem atN_has {α : Type} (f g : α → D) (k : NestedKey) : ∀ l : List α, (atN (l.map fun a => (f a, g a)) k).isSome = l.any fun a => decide (kyD (f a) = k)
  | [] => rfl
  | a :: l => by
    rw [List.map_cons, List.any_cons]
    by_cases h : kyD (f a) = k
    · unfold atN
      rw [List.find?_cons_of_pos (by simpa using h)]
      simp [h]
    · have e : atN ((f a, g a) :: l.map fun a => (f a, g a)) k = atN (l.map fun a => (f a, g a)) k := by
        unfold atN
        rw [List.find?_cons_of_neg (by simpa using h)]
      rw [e, atN_has f g k l, decide_eq_false h, Bool.false_or]
def seenD (row : List (Pr × List Nat)) : List (D × D) := row.map fun r => (pdD r.1, D.bl true)
theorem seen_has (row : List (Pr × List Nat)) (p : Pr) : (atN (seenD row) (kyD (pdD p))).isSome = decide (p ∈ row.map (·.1)) := by
  unfold seenD
  rw [atN_has (fun r : Pr × List Nat => pdD r.1) (fun _ => D.bl true)]
  rw [Bool.eq_iff_iff, List.any_eq_true, decide_eq_true_eq, List.mem_map]
  constructor
  · rintro ⟨r, h1, h2⟩
    exact ⟨r, h1, ky_pdD (of_decide_eq_true h2)⟩
  · rintro ⟨r, h1, rfl⟩
    exact ⟨r, h1, decide_eq_true rfl⟩
theorem seen_put {row : List (Pr × List Nat)} {p : Pr} (h : p ∉ row.map (·.1)) (w : List Nat) : stN (seenD row) (pdD p) (.bl true) = seenD (row ++ [(p, w)]) := by
  have e : atN (seenD row) (kyD (pdD p)) = none := by
    have := seen_has row p
    rw [decide_eq_false h] at this
    cases hh : atN (seenD row) (kyD (pdD p)) with
    | none => rfl
    | some d => rw [hh] at this; cases this
  rw [stN_new e]
  unfold seenD
  rw [List.map_append]
  rfl
theorem seen_len (row : List (Pr × List Nat)) : (seenD row).length = row.length := by unfold seenD; rw [List.length_map]
theorem subs_le {α : Type} : ∀ {l T : List α}, T ∈ subs l → T.length ≤ l.length
  | [], T, h => by rw [subs, List.mem_singleton] at h; subst h; exact Nat.le_refl _
  | a :: l, T, h => by
    unfold subs at h
    rcases List.mem_append.mp h with h | h
    · exact Nat.le_succ_of_le (subs_le h)
    · obtain ⟨T', h1, rfl⟩ := List.mem_map.mp h
      exact Nat.succ_le_succ (subs_le h1)
theorem subs_pw : ∀ {l T : List Nat}, l.Pairwise (· < ·) → T ∈ subs l → T.Pairwise (· < ·)
  | [], T, _, h => by rw [subs, List.mem_singleton] at h; subst h; exact .nil
  | a :: l, T, hl, h => by
    obtain ⟨h1, h2⟩ := List.pairwise_cons.mp hl
    unfold subs at h
    rcases List.mem_append.mp h with h | h
    · exact subs_pw h2 h
    · obtain ⟨T', h3, rfl⟩ := List.mem_map.mp h
      exact List.pairwise_cons.mpr ⟨fun x hx => h1 x (subs_sub h3 x hx), subs_pw h2 h3⟩
def PRc (a b : Mach) (p : Pr) : Prop := ∀ V : List Pr, (a.fs, b.fs) ∈ V → PClosed a b V → p ∈ V
theorem PRc.inS {a b : Mach} (ha : a.Ok) (hb : b.Ok) {p : Pr} (h : PRc a b p) : p.1 ∈ subs (List.range a.n) ∧ p.2 ∈ subs (List.range b.n) := by
  have := h ((subs (List.range a.n)).flatMap fun S => (subs (List.range b.n)).map fun U => (S, U)) ?_ ?_
  · obtain ⟨S, h1, h2⟩ := List.mem_flatMap.mp this
    obtain ⟨U, h3, rfl⟩ := List.mem_map.mp h2
    exact ⟨h1, h3⟩
  · exact List.mem_flatMap.mpr ⟨a.fs, ha.closed_subs.1, List.mem_map.mpr ⟨b.fs, hb.closed_subs.1, rfl⟩⟩
  · intro q _ c _
    exact List.mem_flatMap.mpr ⟨a.by q.1 c, subs_filter _ _, List.mem_map.mpr ⟨b.by q.2 c, subs_filter _ _, rfl⟩⟩
theorem PRc.len {a b : Mach} (ha : a.Ok) (hb : b.Ok) {p : Pr} (h : PRc a b p) : p.1.length ≤ 12 ∧ p.2.length ≤ 12 := by
  obtain ⟨h1, h2⟩ := h.inS ha hb
  have h3 := subs_le h1
  have h4 := subs_le h2
  rw [List.length_range] at h3 h4
  exact ⟨Nat.le_trans h3 ha.n2, Nat.le_trans h4 hb.n2⟩
theorem itD_lastG {α : Type} {l : List α} {f : α → D} (h : l ≠ []) : ∃ x ∈ l, itD (.lst (l.map f)) (-1) = some (f x) := by
  obtain ⟨p, x, rfl⟩ := snoc_of h
  exact ⟨x, by simp, itD_last⟩
theorem op_ipI {Z : Zn} {Γ : List Kd} {k : Rz → List Kd → Prop} {g : Int → Int → Int} {r1 r2 : Rz} {i j : Int} (e1 : vw Γ r1 = some (.int i)) (e2 : vw Γ r2 = some (.int j)) (hk : k (.d (.int (g i j))) Γ) : Op2 Z (ipI g) r1 r2 Γ k :=
  op2_val e1 e2 (fun B H v1 v2 _ x1 x2 Q q => ⟨i, j, x1.int, x2.int, q _ (.int _)⟩) hk
theorem nodup_map_on {α β : Type} {f : α → β} : ∀ {l : List α}, l.Nodup → (∀ a ∈ l, ∀ b ∈ l, f a = f b → a = b) → (l.map f).Nodup
  | [], _, _ => .nil
  | a :: l, h, hi => by
    obtain ⟨h1, h2⟩ := List.nodup_cons.mp h
    rw [List.map_cons]
    refine List.nodup_cons.mpr ⟨fun z => ?_, nodup_map_on h2 fun x hx y hy => hi x (List.mem_cons_of_mem _ hx) y (List.mem_cons_of_mem _ hy)⟩
    obtain ⟨b, h3, h4⟩ := List.mem_map.mp z
    have := hi b (List.mem_cons_of_mem _ h3) a List.mem_cons_self h4
    subst this
    exact h1 h3
theorem ky_pairD {x y : Str × Str} (h : kyD (pairD x) = kyD (pairD y)) : x = y := by
  unfold pairD at h
  simp only [kyD, kyDs, NestedKey.tup.injEq, List.cons.injEq, and_true, NestedKey.text.injEq] at h
  exact Prod.ext h.1 h.2
theorem keyOk_pairD (x : Str × Str) : KeyOk (pairD x) := ⟨⟨_, rfl⟩, rfl, Nat.le_of_ble_eq_true rfl⟩
end Gm
namespace Gm
open PySem PySem.Spec PyProof.Rows L2 NdefX LamX
/-! ### a nested def with cells of its own -/
theorem cells_app : ∀ (names : List (Str × NameKind)) (n : Nat) (acc : List (Str × Addr)), cellsFrom n names acc = cellsFrom n names [] ++ acc
  | [], _, _ => rfl
  | (y, k) :: r, n, acc => by
    unfold cellsFrom
    by_cases hk : (k == .cell) = true
    · rw [if_pos hk, if_pos hk, cells_app r (n + 1) ((y, n) :: acc), cells_app r (n + 1) [(y, n)], List.append_assoc]
      rfl
    · rw [if_neg hk, if_neg hk]
      exact cells_app r n acc
theorem cells_name : ∀ {names : List (Str × NameKind)} {n : Nat} {acc : List (Str × Addr)} {y : Str} {c : Addr}, (y, c) ∈ cellsFrom n names acc → (y, NameKind.cell) ∈ names ∨ (y, c) ∈ acc
  | [], _, _, _, _, h => .inr h
  | (z, k) :: r, n, acc, y, c, h => by
    unfold cellsFrom at h
    by_cases hk : (k == .cell) = true
    · rw [if_pos hk] at h
      rcases cells_name h with q | q
      · exact .inl (List.mem_cons_of_mem _ q)
      · rcases List.mem_cons.mp q with e | q
        · cases e
          rw [eq_of_beq hk]
          exact .inl List.mem_cons_self
        · exact .inr q
    · rw [if_neg hk] at h
      rcases cells_name h with q | q
      · exact .inl (List.mem_cons_of_mem _ q)
      · exact .inr q
section
variable {M : Model} {A : Around} {E : Value → Shared → Prop} {s : Shared}
theorem newEnv_clo {scope : Scope} {globals : Addr} {closure : List (Str × Addr)} {binds : List (Str × Value)} {qual : Str} {func : Option Addr} {code : Value} {builtins : Addr} {Q : Env → Shared → Prop}
    (hl : ∀ x ∈ binds, scope.names.lookup x.1 = some .local)
    (hQ : ∀ h', h'.Ns s.heap.objs.size (fun x => binds.reverse.lookup x) → Heap.SameBut s.heap.objs.size (pushCells (s.heap.push { cls := .type "frame", data := .dict #[] }) scope.names) h' →
      Q (newEnv scope s.heap.objs.size globals (cellsFrom (s.heap.objs.size + 1) scope.names closure) qual func code none builtins) { s with heap := h', toks := s.toks + binds.length })
    (hk : scope.kind = .function) : wpAny M A (newFunctionEnv scope globals closure binds qual func code none builtins) Q E s := by
  simp only [newFunctionEnv, Option.isSome_none, Bool.false_eq_true, if_false]
  simp only [newEnv] at hQ
  refine wpAny_bind (wpAny_alloc ?_)
  refine wpAny_bind (wpAny_layCells _ (fun name kind cells => by cases hkc : kind == NameKind.cell <;> simp [hkc]) _ _ _ _ ?_)
  rw [show ({ s with heap := s.heap.push { cls := .type "frame", data := .dict #[] } } : Shared).heap.objs.size = s.heap.objs.size + 1 from Heap.size_push ..]
  generalize cellsFrom (s.heap.objs.size + 1) scope.names closure = cs at hQ ⊢
  refine wpAny_bind ?_
  refine wpAny_forIn_list _
    (fun rest _ s' => ∃ done h', binds = done ++ rest ∧ s' = { s with heap := h', toks := s.toks + done.length } ∧
      h'.Ns s.heap.objs.size (fun x => done.reverse.lookup x) ∧
      Heap.SameBut s.heap.objs.size (pushCells (s.heap.push { cls := .type "frame", data := .dict #[] }) scope.names) h') _ ?_ ?_ binds _
    ⟨[], _, rfl, rfl, (Heap.Ns.new s.heap (.type "frame")).keeps (pushCells_keeps _ _), Heap.SameBut.refl ..⟩
  · rintro ⟨name, v⟩ rest _ s' ⟨done, h', hb, rfl, hns, hsb⟩
    have hk' : Env.kindOf { scope, locals := s.heap.objs.size, globals, cells := cs, qual, func, code, frame := some s.heap.objs.size, builtins } name = some .local :=
      hl (name, v) (by rw [hb]; simp)
    have hp : (({ scope, locals := s.heap.objs.size, globals, cells := cs, qual, func, code, frame := some s.heap.objs.size, builtins } : Env).scope.kind == .class || (({ scope, locals := s.heap.objs.size, globals, cells := cs, qual, func, code, frame := some s.heap.objs.size, builtins } : Env).scope.kind == .module &&
        ({ scope, locals := s.heap.objs.size, globals, cells := cs, qual, func, code, frame := some s.heap.objs.size, builtins } : Env).locals != ({ scope, locals := s.heap.objs.size, globals, cells := cs, qual, func, code, frame := some s.heap.objs.size, builtins } : Env).globals)) = false := by
      show (scope.kind == .class || (scope.kind == .module && _)) = false
      rw [hk]; rfl
    simp only [storeName_local hk' hp]
    refine wpAny_bind (wpAny_nsSet hns fun h'' hns' hsb' => wpAny_pure ⟨done ++ [(name, v)], h'', by simp [hb], ?_, ?_, hsb.trans hsb'⟩)
    · simp [Nat.add_assoc]
    · rw [lookup_reverse_snoc]; exact hns'
  · rintro _ s' ⟨done, h', hb, rfl, hns, hsb⟩
    rw [List.append_nil] at hb; subst hb
    exact wpAny_pure (hQ h' hns hsb)
end
/-- parameters plain, captured names, cells of its own -/
structure NScC (N ps fr : List Str) (sc : Scope) : Prop where
  kind : sc.kind = .function
  co : sc.isCoroutine = false
  gen : sc.isGenerator = false
  nd : N.Nodup
  pre : N.take (ps.length + fr.length) = ps ++ fr
  par : ∀ x ∈ ps, sc.names.lookup x = some .local
  ncl : ∀ y ∈ sc.names, y.2 = .cell → y.1 ∉ fr
  free : ∀ y ∈ sc.names, y.2 = .free → y.1 ∈ fr
  frk : ∀ x ∈ fr, sc.names.lookup x = some .free
abbrev envFC (F : NF) (f L : Addr) : Env := PySem.W.envX F.qual F.scope L f (.ref F.c) (cellsFrom (L + 1) F.scope.names F.cl)
/-- the context of its body, at its entry -/
def ncxC (CX : CXT) (P : Program) (w : World) (K : PySem.W.Frag) (mg : Str → Option Value) (base : Heap) (N : List Str) (F : NF) (f : Addr) (A : Around) (outer : List Env) (s : Shared) (H : Hp) (E : XK) : Cx where
  prog := P
  w := w
  K := K
  mg := mg
  base := base
  A := A.deeper (envFC F f s.heap.objs.size)
  N := N
  s_0 := s
  H_0 := H
  env := envFC F f s.heap.objs.size
  outer := outer
  stack := envFC F f s.heap.objs.size :: outer
  ex := []
  calm := true
  fn := fun x => decide (F.scope.names.lookup x = some .cell)
  pn := []
  xe := fun e s' => wpAny (model P w) (A.deeper (envFC F f s.heap.objs.size)) (leaving (envFC F f s.heap.objs.size) e) (fun _ s'' => CX outer H s E e s'') (fun e' s'' => CX outer H s E e' s'') s'
section
variable {CX : CXT} {P : Program} {w : World} {K : PySem.W.Frag} {mg : Str → Option Value} {base : Heap} {N ps fr : List Str} {F : NF} {f : Addr} {A : Around} {outer : List Env} {s : Shared} {H : Hp} {E : XK} {us : List Value} {vs : List V} {ws : List (Option V)}
theorem look_app {l m : List (Str × Addr)} {x : Str} {c : Addr} (h : (l ++ m).lookup x = some c) : (x, c) ∈ l ∨ ((∀ c, (x, c) ∉ l) ∧ m.lookup x = some c) := by
  induction l with
  | nil => exact .inr ⟨(fun c z => nomatch z), h⟩
  | cons a l ih =>
    obtain ⟨k, v⟩ := a
    rw [List.cons_append, List.lookup_cons] at h
    cases hb : x == k with
    | true =>
      rw [hb] at h
      cases h
      rw [beq_iff_eq.mp hb]
      exact .inl List.mem_cons_self
    | false =>
      rw [hb] at h
      have ne : x ≠ k := beq_eq_false_iff_ne.mp hb
      rcases ih h with q | ⟨q1, q2⟩
      · exact .inl (List.mem_cons_of_mem _ q)
      · refine .inr ⟨fun c z => ?_, q2⟩
        rcases List.mem_cons.mp z with e | z
        · cases e; exact ne rfl
        · exact q1 c z
theorem look_skip {l m : List (Str × Addr)} {x : Str} (h : ∀ c, (x, c) ∉ l) : (l ++ m).lookup x = m.lookup x := by
  induction l with
  | nil => rfl
  | cons a l ih =>
    obtain ⟨k, v⟩ := a
    have ne : (x == k) = false := beq_eq_false_iff_ne.mpr fun e => h v (by rw [e]; exact List.mem_cons_self)
    rw [List.cons_append, List.lookup_cons, ne]
    exact ih fun c z => h c (List.mem_cons_of_mem _ z)
theorem inv_startC {h₁ : Heap} {tk : Nat} (S : NScC N ps fr F.scope) (hd : A.handled = none) (e0 : Env0 P w K mg base A outer s H) (hl : vs.length = ps.length) (r : Vals vs us) (C : CellsAt F.cl fr ws s.heap H) (hns : h₁.Ns s.heap.objs.size fun y => (ps.zip us).reverse.lookup y)
    (hsb : Heap.SameBut s.heap.objs.size (pushCells (s.heap.push { cls := .type "frame", data := .dict #[] }) F.scope.names) h₁) : Inv (ncxC CX P w K mg base N F f A outer s H E) [] (startF N vs ws) H { s with heap := h₁, toks := tk } := by
  have kp : ∀ b o, s.heap.get? b = some o → h₁.get? b = some o := fun b o e => hsb.extBut b o (Nat.ne_of_lt (Heap.lt_size e)) (pushCells_keeps _ _ b o (Heap.get?_push_of_some _ e))
  have ok := cellsFrom_ok F.scope.names (s.heap.push { cls := .type "frame", data := .dict #[] }) (s.heap.objs.size + 1) [] ⟨fun _ _ hm => (nomatch hm), List.Pairwise.nil⟩ (by rw [Heap.size_push]; exact Nat.le_refl _)
  rw [Heap.size_push] at ok
  have ec : cellsFrom (s.heap.objs.size + 1) F.scope.names F.cl = cellsFrom (s.heap.objs.size + 1) F.scope.names [] ++ F.cl := cells_app _ _ _
  have newC : ∀ {y : Str} {c : Addr}, (y, c) ∈ cellsFrom (s.heap.objs.size + 1) F.scope.names [] → h₁.IsCell c none ∧ s.heap.objs.size + 1 ≤ c := fun {y c} h => by
    obtain ⟨h1, h2⟩ := ok.empty y c h
    exact ⟨h1.sameBut hsb (Nat.ne_of_gt (Nat.lt_of_succ_le h2)), h2⟩
  have hpl : ps.length + fr.length ≤ N.length := by
    have q := congrArg List.length S.pre
    rw [List.length_take, List.length_append] at q
    omega
  have noA : ∀ b : Addr, b ∉ (ncxC CX P w K mg base N F f A outer s H E).ex := fun b z => absurd (show b ∈ ([] : List Addr) from z) (by simp)
  have cellK : ∀ {c : Addr} {v : Option Value}, s.heap.IsCell c v → h₁.IsCell c v := fun {c v} ⟨o, ho, hd⟩ => ⟨o, kp _ _ ho, hd⟩
  have oldLt : ∀ {y : Str} {c : Addr}, F.cl.lookup y = some c → c < s.heap.objs.size := fun {y c} h => by
    obtain ⟨v, z⟩ := (C.all y c h).2
    exact z.lt
  -- a captured name's cell
  have frC : ∀ {y : Str}, y ∈ fr → (cellsFrom (s.heap.objs.size + 1) F.scope.names F.cl).lookup y = F.cl.lookup y := fun {y} hy => by
    rw [ec]
    refine look_skip fun c z => ?_
    rcases cells_name z with q | q
    · exact S.ncl _ q rfl hy
    · cases q
  refine ⟨⟨e0.mod, S.kind, rfl, rfl, Nat.le_refl _, fun x y c e1 e2 => ?_, fun y hy => ?_, fun y c z e => ?_, fun _ => hd, Around.frames_deeper e0.frames, .inr ⟨rfl, rfl⟩, fun b z => absurd z (noA b), e0.bs, e0.bsz, fun b _ _ => noA b,
      fun b z => absurd z (noA b), e0.funs, e0.frf⟩,
    rfl, e0.bare, Un.kept kp, ⟨_, hns, fun i y v e1 e2 e3 => ?_⟩, fun y c e => ?_, e0.hok.fresh (Nat.le_refl _), fun y c e => ?_, fun q hq => absurd (show q ∈ ([] : List (Addr × Obj)) ++ [] from hq) (by simp), e0.hok.kept kp, ?_⟩
  · have e1 : (cellsFrom (s.heap.objs.size + 1) F.scope.names F.cl).lookup x = some c := e1
    have e2 : (cellsFrom (s.heap.objs.size + 1) F.scope.names F.cl).lookup y = some c := e2
    rw [ec] at e1 e2
    rcases look_app e1 with q1 | ⟨_, q1⟩ <;> rcases look_app e2 with q2 | ⟨_, q2⟩
    · exact name_of_addr ok.apart q1 q2
    · exact absurd (Nat.lt_trans (Nat.lt_of_succ_le (newC q1).2) (oldLt q2)) (Nat.lt_irrefl _)
    · exact absurd (Nat.lt_trans (Nat.lt_of_succ_le (newC q2).2) (oldLt q1)) (Nat.lt_irrefl _)
    · exact C.inj x y c q1 q2
  · have hy : F.scope.names.lookup y = some .cell ∨ F.scope.names.lookup y = some .free := hy
    refine Option.isSome_iff_exists.mp ?_
    rcases hy with hy | hy
    · exact PySem.W.cellsFrom_some _ _ _ (.inl hy)
    · obtain ⟨i, hi⟩ := List.mem_iff_getElem?.mp (S.free _ (PySem.mem_of_lookup hy) rfl)
      obtain ⟨c, hc, _⟩ := C.has i y hi
      exact PySem.W.cellsFrom_some _ _ _ (.inr (by rw [hc]; rfl))
  · have z : decide (F.scope.names.lookup y = some .cell) = true := z
    have z := of_decide_eq_true z
    have e : (cellsFrom (s.heap.objs.size + 1) F.scope.names F.cl).lookup y = some c := e
    rw [ec] at e
    rcases look_app e with q | ⟨q, _⟩
    · exact Nat.le_of_lt (Nat.lt_of_succ_le (newC q).2)
    · obtain ⟨c2, h2⟩ := Option.isSome_iff_exists.mp (PySem.W.cellsFrom_some F.scope.names (s.heap.objs.size + 1) [] (.inl z))
      exact absurd (PySem.mem_of_lookup h2) (q c2)
  · have e1 : N[i]? = some y := e1
    have clen := C.len
    unfold startF at e2
    by_cases h1 : i < ps.length
    · have hq : (ps ++ fr)[i]? = some y := by
        rw [← S.pre, List.getElem?_take_of_lt (by omega)]
        exact e1
      rw [List.getElem?_append_left h1] at hq
      rw [List.getElem?_append_left (by rw [List.length_map]; omega), List.getElem?_map] at e2
      have ha : vs[i]? = some v := by
        cases e : vs[i]? with
        | none => rw [e] at e2; cases e2
        | some a => rw [e] at e2; cases e2; rfl
      obtain ⟨u, hu, rv⟩ := r.get ha
      have ndP : ps.Nodup := by
        have q := S.nd.sublist (List.take_sublist (ps.length + fr.length) N)
        rw [S.pre] at q
        exact (List.nodup_append.mp q).1
      exact ⟨u, rv, .inl ⟨S.par y (List.mem_of_getElem? hq), zip_look ndP hq hu⟩⟩
    · rw [List.getElem?_append_right (by rw [List.length_map]; omega), List.length_map] at e2
      by_cases h2 : i < ps.length + fr.length
      · have hq : (ps ++ fr)[i]? = some y := by
          rw [← S.pre, List.getElem?_take_of_lt (by omega)]
          exact e1
        rw [List.getElem?_append_right (by omega)] at hq
        rw [List.getElem?_append_left (by omega), hl] at e2
        obtain ⟨c, hc, hv⟩ := C.has (i - ps.length) y hq
        obtain ⟨u, ru, hu⟩ := hv v e2
        have hyf := List.mem_of_getElem? hq
        exact ⟨u, ru, .inr ⟨.inr (S.frk y hyf), c, (frC hyf).trans hc, cellK hu⟩⟩
      · rw [List.getElem?_append_right (by omega), List.getElem?_replicate] at e2
        split at e2 <;> cases e2
  · have e : (cellsFrom (s.heap.objs.size + 1) F.scope.names F.cl).lookup y = some c := e
    rw [ec] at e
    rcases look_app e with q | ⟨_, q⟩
    · exact ⟨none, (newC q).1⟩
    · obtain ⟨v, z⟩ := (C.all y c q).2
      exact ⟨v, cellK z⟩
  · have e : (cellsFrom (s.heap.objs.size + 1) F.scope.names F.cl).lookup y = some c := e
    rw [ec] at e
    rcases look_app e with q | ⟨_, q⟩
    · exact e0.hok.fresh (Nat.le_of_lt (Nat.lt_of_succ_le (newC q).2))
    · exact (C.all y c q).1
  · have clen := C.len
    unfold startF
    show _ = N.length
    rw [List.length_append, List.length_append, List.length_map, List.length_replicate]
    omega
end
section
variable {CX : CXT} {P : Program} {w : World} {K : PySem.W.Frag} {mg : Str → Option Value} {base : Heap} {N ps fr : List Str} {F : NF} {f : Addr} {k j : Nat} {sp : List (Option V) → Sp}
/-- a nested def with cells of its own, by its body -/
theorem nok_ofC (S : NScC N ps fr F.scope) (hb : ∀ (doc pm ctv : Value) (us : List Value), us.length = ps.length → bindArgs (F.fd doc pm ctv) ⟨us, []⟩ = pure (ps.zip us)) (len : ∀ ws vs H Q E, sp ws vs H Q E → vs.length = ps.length)
    (hbody : ∀ (A : Around) (outer : List Env) (s : Shared) (H : Hp) (vs : List V) (ws : List (Option V)) (Q : VK) (E : XK), Room k (A.deeper (envFC F f s.heap.objs.size)) → ws.length = fr.length → sp ws vs H Q E →
      ∃ t, PSs (ncxC CX P w K mg base N F f A outer s H E) F.body t ∧ t { nx := fun _ H' => Q .non H', rt := Q } (startF N vs ws) H) :
    NOk P w K mg base CX (k + 1) f F ps fr sp := by
  refine ⟨len, fun A outer s H us vs ws Q E hr e0 hf hc C r hsp => ?_⟩
  have hl := len _ _ _ _ _ hsp
  have lim : s.heap.NoLimit := e0.mod.nolimit.keeps fun b o e => (e0.bs b o e).1
  obtain ⟨od, sl, doc, pm, ctv, ho⟩ := fnO_at e0.hok hf
  refine codeAny_call_function hr.depth ho rfl S.co S.gen rfl (codeO_at e0.hok hc) ?_
  rw [hb doc pm ctv us (by rw [← r.length]; exact hl)]
  refine wpAny_pure (newEnv_clo (fun ⟨n, _⟩ hy => S.par n (List.of_mem_zip hy).1) (fun h₁ hns hsb => ⟨?_, ?_⟩) S.kind)
  · refine lim.keeps fun b o e => hsb.extBut b o (Nat.ne_of_lt (Heap.lt_size e)) (pushCells_keeps _ _ b o (Heap.get?_push_of_some _ e))
  show codeAny _ _ (.func F.body (envFC F f s.heap.objs.size)) _ _
  refine codeAny_func ?_
  obtain ⟨t, ht, hq⟩ := hbody A outer s H vs ws Q E (hr.deeper _) C.len hsp
  have I : Inv (ncxC CX P w K mg base N F f A outer s H E) [] (startF N vs ws) H { s with heap := h₁, toks := s.toks + (ps.zip us).length } := inv_startC S hr.hd e0 hl r C hns hsb
  refine wpAny_mono (ht.run [] _ (startF N vs ws) H _ I hq) (fun fl s' hs => ?_) fun e s' hs => hs
  have fin : ∀ {σ' : L2.St} {H' : Hp} {v : V} {u : Value}, Inv (ncxC CX P w K mg base N F f A outer s H E) [] σ' H' s' → L2.RelV v u → Q v H' → CE outer P w H s Q u s' :=
    fun {σ' H' v u} J rv q => ⟨v, H', J.os, J.bare, J.base, J.hok, rv, q⟩
  cases fl with
  | ret u =>
    obtain ⟨v, σ', H', J, rv, q⟩ := hs
    exact fin J rv q
  | next =>
    obtain ⟨σ', H', J, q⟩ := hs
    exact fin (v := V.non) (u := Value.none) J rfl q
  | brk =>
    obtain ⟨_, _, _, q⟩ := hs
    exact False.elim q
  | cont =>
    obtain ⟨_, _, _, q⟩ := hs
    exact False.elim q
end
end Gm
namespace Gm
open PySem PySem.Spec PyProof.Rows L2 NdefX LamX
/-- data in, data out; the one captured name holds data -/
def spC (w : World) (T : List NTab) (pre : D → List D → Prop) (post : D → List D → D → Prop) : List (Option V) → Sp := fun ws vs H Q _ => ∃ B tv td ds, ws = [some tv] ∧ Sb B H ∧ (∀ a o, B a = some o → NT o) ∧ TabsN T H ∧ R w B tv td ∧ Rs w B vs ds ∧ pre td ds ∧
  ∀ v d H' B', Grow T H B H' B' → R w B' v d → post td ds d → Q v H'
section
variable {P : Program} {w : World} {K : PySem.W.Frag} {mg : Str → Option Value} {base : Heap} {F : NF} {f : Addr}
theorem fnC {T : List NTab} {pre : D → List D → Prop} {post : D → List D → D → Prop} {N ps : List Str} {y : Str} {k : Nat} (S : NScC N ps [y] F.scope) (hb : ∀ (doc pm ctv : Value) (us : List Value), us.length = ps.length → bindArgs (F.fd doc pm ctv) ⟨us, []⟩ = pure (ps.zip us))
    (hpre : ∀ td ds, pre td ds → ds.length = ps.length)
    (hbody : ∀ (A : Around) (outer : List Env) (s : Shared) (H : Hp) (E : XK), Room k (A.deeper (envFC F f s.heap.objs.size)) →
      ∃ t, PSs (ncxC CX0 P w K mg base N F f A outer s H E).nox F.body t ∧ ∀ (H B : Hp) (td : D) (ds : List D), pre td ds → St ⟨w, H, B, [], T⟩ t (start0 N.length (ds ++ [td])) { nx := fun _ => post td ds .non, rt := fun r _ => ∃ d, r = .d d ∧ post td ds d }) :
    NOk P w K mg base CX0 (k + 1) f F ps [y] (spC w T pre post) := by
  refine nok_ofC S hb (fun ws vs H Q E x => ?_) fun A outer s H vs ws Q E hr hl h => ?_
  · obtain ⟨B, tv, td, ds, _, _, _, _, _, r, hp, _⟩ := x
    rw [r.length]
    exact hpre td ds hp
  · obtain ⟨B, tv, td, ds, rfl, h1, h2, h3, rt, r, hp, q⟩ := h
    obtain ⟨t, ht, hs⟩ := hbody A outer s H E hr
    have es : startF N vs [some tv] = L2.start N (vs ++ [tv]) := by
      unfold startF L2.start
      rw [List.map_append, List.append_assoc, List.length_append]
      show _ = vs.map some ++ ([some tv] ++ List.replicate (N.length - (vs.length + 1)) none)
      rw [Nat.sub_add_eq]
      rfl
    rw [es]
    refine ⟨t, ht.nox, hs H B td ds hp (L2.start N (vs ++ [tv])) H B (env_start h1 h2 h3 (r.append (.cons rt .nil))) _ ⟨?_, ?_, ?_, ?_⟩⟩
    · intro σ H' B' Γ I _ hq
      exact q .non .non H' B' I.toGrow R.non hq
    · rintro σ H' B' Γ v r I _ hr ⟨d, rfl, hq⟩
      exact q v d H' B' I.toGrow hr hq
    · intro σ H' B' Γ I _ hq
      exact hq.elim
    · intro σ H' B' Γ I _ hq
      exact hq.elim
end
/-! ### a function handed in is called -/
theorem cells_later {X : Cx} {pins : List (Addr × Obj)} {σ : L2.St} {H : Hp} {s : Shared} {cl : List (Str × Addr)} {fr : List Str} {ws : List (Option V)} (C : CellsAt cl fr ws X.s_0.heap X.H_0) (hx : X.ex = []) (I : Inv X pins σ H s) : CellsAt cl fr ws s.heap H := by
  have nx : ∀ b : Addr, b ∉ X.ex := fun b z => by rw [hx] at z; cases z
  have kp : ∀ y c, cl.lookup y = some c → ∀ v, X.s_0.heap.IsCell c v → s.heap.IsCell c v := fun y c e v ⟨o, ho, hd⟩ => by
    obtain ⟨sl, z⟩ := I.base.any ho (C.all y c e).1 (nx c)
    exact ⟨_, z, hd⟩
  refine ⟨C.len, fun y c e => ?_, C.inj, fun i y e => ?_⟩
  · obtain ⟨n, v, z⟩ := C.all y c e
    refine ⟨?_, v, kp y c e v z⟩
    obtain ⟨o, ho, _⟩ := z
    exact I.base.free c o ho n (nx c)
  · obtain ⟨c, hc, hv⟩ := C.has i y e
    refine ⟨c, hc, fun v ev => ?_⟩
    obtain ⟨u, r, z⟩ := hv v ev
    exact ⟨u, r, kp y c hc _ z⟩
def tCallP (g : Addr) (F : NF) (i : Nat) (ws : List (Option V)) (sp : List (Option V) → Sp) (E : XK) (t : TA) : TE := fun σ H Q => σ[i]? = some (some (.ref g)) ∧ H g = some (FnO g F) ∧
  t σ H fun vs H1 => H1 g = some (FnO g F) ∧ H1 F.c = some (CodeO F.c F.qual) ∧ sp ws vs H1 Q E
theorem pe_callP {X : Cx} {CX : CXT} {g : Addr} {F : NF} {ps fr : List Str} {ws : List (Option V)} {i j k : Nat} {x : Str} {sp : List (Option V) → Sp} {E : XK} {t : TA} {e : Expr} {es : List Expr} {p pos : Pos} (Fn : NOk X.prog X.w X.K X.mg X.base CX k g F ps fr sp) (hr : Room j X.A) (hk : k ≤ j) (hx : Passes CX X E)
    (C : CellsAt F.cl fr ws X.s_0.heap X.H_0) (hex : X.ex = []) (hN : X.N[i]? = some x) (hv : Vis X.env.scope x) (ha : PA X (e :: es) t)
    (hd : (x == ("__debug__" : Str)) = false := by decide) (hcd : (x == ("__classdict__" : Str)) = false := by decide)
    (he : starEach (e :: es) X.env = (false, eval e X.env) :: starEach es X.env := by rfl) (hpl : (backTo pos (starEach es X.env)).any (·.1) = false := by rfl) :
    PE X (.Call (.Name x p) (e :: es) [] pos) (tCallP g F i ws sp E t) := by
  refine ⟨fun pins s σ H Q I h => ?_⟩
  obtain ⟨hs, hf, ht⟩ := h
  refine wpAny_Call_Name_kw (thn ((pe_var (pos := p) hN hv hd hcd).run pins s σ H (fun v H1 => v = .ref g ∧ H1 = H) I ⟨.ref g, hs, rfl, rfl⟩) fun u s1 ⟨v, H1, I1, r1, q1⟩ => ?_)
  obtain ⟨ev, eH⟩ := q1
  subst ev
  rw [eH] at I1
  obtain rfl : u = Value.ref g := r1
  refine PySem.W.callWith_F (first := []) (fnAt_of I1 hf) (thn (ha.run pos pins s1 σ H _ I1 ht) fun us s2 ⟨vs, H2, I2, r, h1, h2, q⟩ => ⟨fnAt_of I2 h1, ?_⟩) he hpl
  show wpAny _ _ (call (.ref g) us) _ _ _
  refine wpAny_call (codeAny_mono (Fn.run X.A X.stack s2 H2 us vs ws Q E (hr.mono hk) I2.env0 h1 h2 (cells_later C hex I2) r q) fun r s' hq => ?_)
  cases r with
  | error e => exact hx pins σ H2 s2 e s' I2 hq
  | ok fl =>
    cases fl with
    | ret u => exact I2.after hq
    | next => exact False.elim hq
    | brk => exact False.elim hq
    | cont => exact False.elim hq
theorem nt_fn {g : Addr} {F : NF} : NT (FnO g F) := fnO_ne
theorem nt_code {c : Addr} {q : Str} : NT (CodeO c q) := codeO_ne
theorem ev_callP {Z : Zn} {Γ : List Kd} {k : Rz → List Kd → Prop} {ta : TA} {g : Addr} {F : NF} {i : Nat} {tv : V} {td : D} {w : World} {T : List NTab} {pre : D → List D → Prop} {post : D → List D → D → Prop} {E : XK} (hi : Γ[i]? = some (.raw (.ref g))) (hg : Z.H g = some (FnO g F)) (hc : Z.H F.c = some (CodeO F.c F.qual)) (hM : Z.M = []) (hw : Z.w = w) (hT : Z.T = T) (ht : R w Z.B tv td)
    (h : EvA Z ta Γ fun rs Γ1 => ∃ ds, unDs rs = some ds ∧ pre td ds ∧ ∀ d, post td ds d → k (.d d) Γ1) : Ev Z (tCallP g F i [some tv] (spC w T pre post) E ta) Γ k := fun σ H B I Q q => by
  have nM : ∀ a, a ∉ Z.M := fun a z => by rw [hM] at z; cases z
  obtain ⟨v, hs, hv⟩ := I.slot hi (fun z => nomatch z)
  have hv : some v = some (V.ref g) := hv
  cases hv
  refine ⟨hs, I.keepH g _ hg (nM g) nt_fn, h σ H B I _ fun rs Γ1 vs H1 B1 I1 s1 x1 ⟨ds, e, hp, kk⟩ => ?_⟩
  have e2 := unDs_map e
  subst e2 hw hT
  refine ⟨I1.keepH g _ hg (nM g) nt_fn, I1.keepH _ _ hc (nM _) nt_code, B1, tv, td, ds, rfl, I1.sub, I1.nt, I1.tabs, R.mono I1.keepB ht, x1.datas, hp, fun v d H' B' gr r hq => ?_⟩
  exact q (.d d) Γ1 v H' B' (I1.grow gr) (s1.trans gr.base) r (kk d hq)
/-! ### a start with values that are no data -/
theorem env_startK {w : World} {T : List NTab} {H B : Hp} {N : List Str} {vs : List V} {ks : List Kd} (h1 : Sb B H) (h2 : ∀ a o, B a = some o → NT o) (h3 : TabsN T H) (hl : ks.length = vs.length)
    (r : ∀ (i : Nat) (k : Kd), ks[i]? = some k → ∃ v, vs[i]? = some v ∧ ((∃ d, k = .dat d ∧ R w B v d) ∨ k = .raw v)) : EnvOk ⟨w, H, B, [], T⟩ (ks ++ List.replicate (N.length - ks.length) Kd.any) (L2.start N vs) H B where
  keepH := fun a o e _ _ => e
  there := fun a e => e
  keepB := Sb.refl B
  sub := h1
  nt := h2
  apart := fun a e b => b
  tabs := h3
  len := by
    unfold L2.start
    rw [List.length_append, List.length_append, List.length_map, List.length_replicate, List.length_replicate, hl]
  slots := fun i k e => by
    by_cases hi : i < ks.length
    · rw [List.getElem?_append_left hi] at e
      obtain ⟨v, hv, x⟩ := r i k e
      unfold L2.start
      rw [List.getElem?_append_left (by rw [List.length_map, ← hl]; exact hi), List.getElem?_map, hv]
      rcases x with ⟨d, rfl, rv⟩ | rfl
      · exact ⟨v, rfl, rv⟩
      · rfl
    · rw [List.getElem?_append_right (by omega), List.getElem?_replicate] at e
      split at e
      · cases e; trivial
      · cases e
  sep := fun i j f g d e p h1 _ _ _ => by
    by_cases hi : i < ks.length
    · rw [List.getElem?_append_left hi] at h1
      obtain ⟨v, hv, x⟩ := r i _ h1
      rcases x with ⟨d, z, _⟩ | z <;> cases z
    · rw [List.getElem?_append_right (by omega), List.getElem?_replicate] at h1
      split at h1 <;> cases h1
  zM := fun p hp => nomatch hp
  zB := h1
/-! ### a walk over finitely many things -/
structure Wk where
  dom : List D
  nx : D → Nat → List D
  sigs : List Nat
  st : D
  goal : D
structure Wk.Ok (W : Wk) : Prop where
  st : W.st ∈ W.dom
  cl : ∀ a ∈ W.dom, ∀ c ∈ W.sigs, ∀ b ∈ W.nx a c, b ∈ W.dom
  inj : ∀ a ∈ W.dom, ∀ b ∈ W.dom, kyD a = kyD b → a = b
  key : ∀ a ∈ W.dom, KeyOk a
  off : ∀ a ∈ W.dom, eqD a W.goal = false
  sh : ∀ a ∈ W.dom, Sh 50 a
  shG : Sh 50 W.goal
  sgs : ∀ c ∈ W.sigs, isL c
  len : W.dom.length ≤ 200
def Wk.pre (W : Wk) (ds : List D) : Prop := ∃ a ∈ W.dom, ∃ c ∈ W.sigs, ds = [a, sg c]
def Wk.post (W : Wk) (ds : List D) (d : D) : Prop := ∀ a c, ds = [a, sg c] → d = .lst (W.nx a c)
def knD (kn : List D) : List (D × D) := kn.map fun a => (a, D.bl true)
theorem kn_has {W : Wk} (h : W.Ok) {kn : List D} (hk : ∀ a ∈ kn, a ∈ W.dom) {a : D} (ha : a ∈ W.dom) : (atN (knD kn) (kyD a)).isSome = true ↔ a ∈ kn := by
  constructor
  · intro z
    apply Classical.byContradiction
    intro n
    unfold knD at z
    rw [atN_none (f := fun a : D => a) (g := fun _ => D.bl true) fun b hb e => n (h.inj b (hk b hb) a ha e ▸ hb)] at z
    cases z
  · intro z
    unfold knD
    rw [atN_some (f := fun a : D => a) (g := fun _ => D.bl true) z fun b hb e => h.inj b (hk b hb) a ha e]
    rfl
theorem kn_put {W : Wk} (h : W.Ok) {kn : List D} (hk : ∀ a ∈ kn, a ∈ W.dom) {a : D} (ha : a ∈ W.dom) (n : a ∉ kn) : stN (knD kn) a (.bl true) = knD (kn ++ [a]) := by
  have e : atN (knD kn) (kyD a) = none := by
    cases q : atN (knD kn) (kyD a) with
    | none => rfl
    | some d => exact absurd ((kn_has h hk ha).mp (by rw [q]; rfl)) n
  rw [stN_new e]
  unfold knD
  rw [List.map_append]
  rfl
theorem kn_le {W : Wk} {kn : List D} (hn : kn.Nodup) (hk : ∀ a ∈ kn, a ∈ W.dom) : kn.length ≤ W.dom.length := by
  letI : DecidableEq D := fun a b => Classical.propDecidable (a = b)
  exact nodup_sub (β := D) kn W.dom hn hk
theorem st_run {w : World} {T : List NTab} {H B : Hp} {N : List Str} {vs : List V} {ks : List Kd} {t : TS} {Q : VK} (I : EnvOk ⟨w, H, B, [], T⟩ ks (L2.start N vs) H B) (h : St ⟨w, H, B, [], T⟩ t ks { nx := fun _ => False, rt := fun r _ => r = .d .non }) (q : ∀ H' B', Grow T H B H' B' → Q .non H') :
    t { nx := fun _ H' => Q .non H', rt := Q } (L2.start N vs) H := by
  refine h _ H B I _ ⟨?_, ?_, ?_, ?_⟩
  · intro σ H' B' Γ I _ hq
    exact hq.elim
  · rintro σ H' B' Γ v r I _ hr rfl
    cases hr
    exact q H' B' I.toGrow
  · intro σ H' B' Γ I _ hq
    exact hq.elim
  · intro σ H' B' Γ I _ hq
    exact hq.elim
/-- the promise of first_text, told of the very state: what it got is a function whose captured name holds data -/
structure FtOk (P : Program) (w : World) (K : PySem.W.Frag) (mg : Str → Option Value) (base : Heap) (T : List NTab) (j k : Nat) (f : Addr) (fd : FuncData) (ps : List Str) : Prop where
  len : ps.length = 4
  run : ∀ (A : Around) (outer : List Env) (s : Shared) (H B : Hp) (args : Args) (us : List Value) (vs : List V) (Q : VK) (E : XK) (W : Wk) (g : Addr) (F : NF) (tv : V) (td : D) (y : Str) (qs : List Str), Room k A → Env0 P w K mg base A outer s H → BindsTo s fd args (ps.zip us) → Vals (vs ++ [.ref g]) us →
    W.Ok → NOk P w K mg base CX0 j g F qs [y] (spC w T (fun t ds => t = td ∧ W.pre ds) fun _ ds d => W.post ds d) → H g = some (FnO g F) → H F.c = some (CodeO F.c F.qual) → CellsAt F.cl [y] [some tv] s.heap H →
    Sb B H → (∀ a o, B a = some o → NT o) → TabsN T H → R w B tv td → Rs w B vs [.lst (W.sigs.map sg), W.st, W.goal] → (∀ H' B', Grow T H B H' B' → Q .non H') → codeAny (model P w) A (.call (.ref f) args) (CR CX0 outer P w H s Q E) s
/-- first_text(.., f) -/
def tFt (w : World) (T : List NTab) (mk : Addr → NF) (js : List Nat) (npre : D → List D → Prop) (npost : D → List D → D → Prop) (t : TA) : TE := fun σ H Q => t σ H fun vs H1 => ∃ (g c' : Addr) (tv : V) (W : Wk) (B : Hp) (td : D) (vs3 : List V), vs = vs3 ++ [V.ref g] ∧ vs3.length = 3 ∧ js.map (slotAt σ) = [some tv] ∧ W.Ok ∧ (∀ ds, W.pre ds → npre td ds) ∧ (∀ ds d, W.pre ds → npost td ds d → W.post ds d) ∧
  H1 g = some (FnO g (mk c')) ∧ H1 (mk c').c = some (CodeO (mk c').c (mk c').qual) ∧ Sb B H1 ∧ (∀ a o, B a = some o → NT o) ∧ TabsN T H1 ∧ R w B tv td ∧ Rs w B vs3 [.lst (W.sigs.map sg), W.st, W.goal] ∧ ∀ H' B', Grow T H1 B H' B' → Q .non H'
theorem pe_callFt {X : Cx} {T : List NTab} {mk : Addr → NF} {cl : List (Str × Addr)} {y : Str} {qs ps : List Str} {js : List Nat} {npre : D → List D → Prop} {npost : D → List D → D → Prop} {f : Addr} {fd : FuncData} {j k : Nat} {x : Str} {t : TA} {e : Expr} {es : List Expr} {p pos : Pos}
    (Ft : FtOk X.prog X.w X.K X.mg X.base T j k f fd ps) (hr : Room k X.A) (hg : Gl X x) (hm : X.mg x = some (.ref f)) (hk : PySem.W.keepIn X.K (.ref f) = true) (hb : Binds X.K fd ps [])
    (Fn : ∀ g c', NOk X.prog X.w X.K X.mg X.base CX0 j g (mk c') qs [y] (spC X.w T npre npost)) (hcl : ∀ c', (mk c').cl = cl) (cp : X.Ok → Caps X cl [y] js) (ha : PA X (e :: es) t)
    (hdb : (x == ("__debug__" : Str)) = false := by decide) (he : starEach (e :: es) X.env = (false, eval e X.env) :: starEach es X.env := by rfl) (hpl : (backTo pos (starEach es X.env)).any (·.1) = false := by rfl) :
    PE X (.Call (.Name x p) (e :: es) [] pos) (tFt X.w T mk js npre npost t) := by
  refine ⟨fun pins s σ H Q I h => ?_⟩
  refine wpAny_Call_Name_kw (ld_glob I hg hm ?_ hdb)
  refine PySem.W.callWith_K (h₀ := X.base) I.ok.mod.kin hk (thn (ha.run pos pins s σ H _ I h) fun us s1 ⟨vs, H1, I1, r, q⟩ => ⟨I1.kIn, ?_⟩) he hpl
  obtain ⟨g, c', tv, W, B, td, vs3, rfl, h3, hs, hW, hpre, hpost, hg1, hc1, hS, hN, hT, rt, rv, qq⟩ := q
  have hl : us.length = 4 := by rw [← r.length, List.length_append, h3]; rfl
  have C := cells_of I1 (cp I1.ok)
  rw [hs] at C
  have Fn' : NOk X.prog X.w X.K X.mg X.base CX0 j g (mk c') qs [y] (spC X.w T (fun t ds => t = td ∧ W.pre ds) fun _ ds d => W.post ds d) := (Fn g c').imp fun ws vs H Q E ⟨B, tv, td', ds, e1, e2, e3, e4, e5, e6, ⟨e7, e7'⟩, e8⟩ =>
    ⟨B, tv, td', ds, e1, e2, e3, e4, e5, e6, by rw [e7]; exact hpre ds e7', fun v d H' B' gr rr hq => e8 v d H' B' gr rr (hpost ds d e7' (by rw [← e7]; exact hq))⟩
  have bb := hb s1 us I1.kIn (by rw [List.append_nil, hl, Ft.len])
  rw [List.append_nil] at bb
  refine wpAny_call (codeAny_mono (Ft.run X.A X.stack s1 H1 B ⟨us, []⟩ us vs3 Q E0 W g (mk c') tv td y qs hr I1.env0 bb r hW Fn' hg1 hc1 (by rw [hcl c']; exact C) hS hN hT rt rv qq) fun r s' hq => ?_)
  cases r with
  | error e => exact (show False from hq).elim
  | ok fl =>
    cases fl with
    | ret u => exact I1.after hq
    | next => exact False.elim hq
    | brk => exact False.elim hq
    | cont => exact False.elim hq
end Gm
namespace Gm
open PySem PySem.Spec PyProof.Rows L2 NdefX LamX
/-! ### behind a def statement in a def: the frame begun anew -/
theorem EnvOk.back {Z : Zn} {Γ Γ' : List Kd} {σ σ' : L2.St} {H B H1 H' B' : Hp} (I : EnvOk Z Γ σ H B) (e1 : ExtN H H1) (e2 : ∀ b, H1 b = none → H b = none) (J : EnvOk ⟨Z.w, H1, B, [], Z.T⟩ Γ' σ' H' B') : EnvOk Z Γ' σ' H' B' where
  keepH := fun a o e m n => J.keepH a o (e1 a o (I.keepH a o e m n) n) (fun z => nomatch z) n
  there := fun a e => J.there a fun z => I.there a e (e2 a z)
  keepB := I.keepB.trans J.keepB
  sub := J.sub
  nt := J.nt
  apart := fun a e b => J.apart a (fun z => I.there a e (e2 a z)) (I.apart a e b)
  tabs := J.tabs
  len := J.len
  slots := fun i k h => by
    have q := J.slots i k h
    cases k with
    | any => trivial
    | dat d => exact q
    | raw v => exact q
    | ob f d =>
      obtain ⟨p, h1, h2, h3, h4⟩ := q
      refine ⟨p, h1, h2, h3, ?_⟩
      cases f with
      | true =>
        rw [if_pos rfl] at h4 ⊢
        cases e : Z.H p with
        | none => rfl
        | some o =>
          have h4 : H1 p = none := h4
          exact absurd (e2 p h4) (I.there p (by rw [e]; exact fun z => nomatch z))
      | false =>
        rw [if_neg (by decide)] at h4
        have h4 : p ∈ ([] : List Addr) := h4
        cases h4
  sep := J.sep
  zM := I.zM
  zB := I.zB
def noOb : List Kd → Bool
  | [] => true
  | k :: l => !k.isOb && noOb l
theorem noOb_get : ∀ {Γ : List Kd} {i : Nat} {f : Bool} {d : D}, noOb Γ = true → Γ[i]? ≠ some (.ob f d)
  | [], i, f, d, _, e => by simp at e
  | k :: l, 0, f, d, h, e => by
    simp at e
    subst e
    cases h
  | k :: l, i + 1, f, d, h, e => by
    unfold noOb at h
    rw [Bool.and_eq_true] at h
    exact noOb_get h.2 (by simpa using e)
theorem st_ndefM {Z : Zn} {Γ : List Kd} {T : List NTab} {i : Nat} {mk : Addr → NF} {u : TS} {N0 : Prop} {R0 : D → Prop} (hT : Z.T = T) (hmc : ∀ c', (mk c').c = c') (ho : noOb Γ = true) (hi : i < Γ.length)
    (h : ∀ (g c' : Addr) (H1 B : Hp), H1 g = some (FnO g (mk c')) → H1 (mk c').c = some (CodeO (mk c').c (mk c').qual) → St ⟨Z.w, H1, B, [], T⟩ u (Γ.set i (.raw (.ref g))) { nx := fun _ => N0, rt := fun r _ => ∃ d, r = .d d ∧ R0 d }) :
    St Z (tSeq (tNdefM T i mk) u) Γ { nx := fun _ => N0, rt := fun r _ => ∃ d, r = .d d ∧ R0 d } := fun σ H B I D s => by
  subst hT
  refine ⟨I.tabs, fun g c' H1 e1 e2 hT1 hg0 hg hc => ?_⟩
  have hc : H1 (mk c').c = some (CodeO (mk c').c (mk c').qual) := by rw [hmc c']; exact hc
  have hsub : Sb B H1 := fun a o e => e1 a o (I.sub a o e) (I.nt a o e)
  have J : EnvOk ⟨Z.w, H1, B, [], Z.T⟩ (Γ.set i (.raw (.ref g))) (σ.set i (some (.ref g))) H1 B := by
    refine ⟨fun a o e _ _ => e, fun a e => e, Sb.refl B, hsub, I.nt, fun a e b => b, hT1, by rw [List.length_set, List.length_set]; exact I.len, fun j k e => ?_, fun a b f f' d d' p a1 a2 a3 a4 => ?_, (fun p hp => nomatch hp), hsub⟩
    · have hi' : i < σ.length := by rw [← I.len]; exact hi
      by_cases hj : i = j
      · subst hj
        rw [List.getElem?_set_self hi] at e
        cases e
        rw [List.getElem?_set_self hi']
        rfl
      · rw [List.getElem?_set_ne hj] at e ⊢
        have q := I.slots j k e
        cases k with
        | any => trivial
        | dat d => exact q
        | raw v => exact q
        | ob f d => exact absurd e (noOb_get ho)
    · by_cases hj : i = a
      · subst hj
        rw [List.getElem?_set_self hi] at a1
        cases a1
      · rw [List.getElem?_set_ne hj] at a1
        exact absurd a1 (noOb_get ho)
  refine h g c' H1 B hg hc _ H1 B J D ⟨?_, ?_, ?_, ?_⟩
  · intro σ' H' B' Γ' J' b q
    exact s.nx σ' H' B' Γ' (I.back e1 e2 J') b q
  · rintro σ' H' B' Γ' v r J' b x ⟨d, rfl, q⟩
    exact s.rt σ' H' B' Γ' v (.d d) (I.back e1 e2 J') b x ⟨d, rfl, q⟩
  · intro σ' H' B' Γ' J' b q
    exact q.elim
  · intro σ' H' B' Γ' J' b q
    exact q.elim
theorem ev_callFt {Z : Zn} {Γ : List Kd} {k : Rz → List Kd → Prop} {ta : TA} {w : World} {T : List NTab} {mk : Addr → NF} {i : Nat} {npre : D → List D → Prop} {npost : D → List D → D → Prop} {g c' : Addr} {td : D} (hg : Z.H g = some (FnO g (mk c'))) (hc : Z.H (mk c').c = some (CodeO (mk c').c (mk c').qual)) (hM : Z.M = []) (hw : Z.w = w) (hT : Z.T = T) (hi : Γ[i]? = some (.dat td))
    (h : EvA Z ta Γ fun rs Γ1 => ∃ W : Wk, rs = [.d (.lst (W.sigs.map sg)), .d W.st, .d W.goal, .x (.ref g)] ∧ W.Ok ∧ (∀ ds, W.pre ds → npre td ds) ∧ (∀ ds d, W.pre ds → npost td ds d → W.post ds d) ∧ k (.d .non) Γ1) : Ev Z (tFt w T mk [i] npre npost ta) Γ k := fun σ H B I Q q =>
  h σ H B I _ fun rs Γ1 vs H1 B1 I1 s1 x1 ⟨W, e, hW, h1, h2, kk⟩ => by
    subst e hw hT
    have nM : ∀ a, a ∉ Z.M := fun a z => by rw [hM] at z; cases z
    obtain ⟨tv, hs, tv', e, rt⟩ := I.slot hi (fun z => nomatch z)
    cases e
    cases x1 with
    | @cons v1 _ _ _ _ r1 x1 =>
    cases x1 with
    | @cons v2 _ _ _ _ r2 x1 =>
    cases x1 with
    | @cons v3 _ _ _ _ r3 x1 =>
    cases x1 with
    | @cons v4 _ _ _ _ r4 x1 =>
    cases x1
    have e4 : v4 = .ref g := r4 Γ1 H1
    subst e4
    refine ⟨g, c', tv, W, B1, td, [v1, v2, v3], rfl, rfl, by show [slotAt σ i] = [some tv]; rw [slotAt_of hs], hW, h1, h2, I1.keepH g _ hg (nM g) nt_fn, I1.keepH _ _ hc (nM _) nt_code, I1.sub, I1.nt, I1.tabs, R.mono s1 rt, .cons (r1 Γ1 H1) (.cons (r2 Γ1 H1) (.cons (r3 Γ1 H1) .nil)), fun H' B' gr => ?_⟩
    exact q (.d .non) Γ1 .non H' B' (I1.grow gr) (s1.trans gr.base) R.non kk
/-- a def whose code object is known, by its body -/
theorem fnRc {P : Program} {w : World} {K : PySem.W.Frag} {mg : Str → Option Value} {base : Heap} {x qual : Str} {params : Arguments} {body : List Stmt} {scope : Scope} {dvs : List V} {kws : List (Str × V)} {f cD : Addr} {fd : FuncData} {T : List NTab} {pre : List D → Prop} {post : List D → D → Prop} {N ps : List Str} {k : Nat}
    (F : FunD K x qual params body scope dvs kws f fd) (hc : fd.code = .ref cD) (S : FnScope N ps scope) (hpre : ∀ ds, pre ds → ds.length = ps.length)
    (hb : ∀ (A : Around) (outer : List Env) (s : Shared) (H : Hp) (E : XK), Room k (A.deeper (envOfC qual scope s.heap.objs.size f (.ref cD))) →
      ∃ t, PSs (cxOf CX0 P w K mg base N qual scope f (.ref cD) A outer s H E).nox body t ∧ ∀ (H B : Hp) (ds : List D), pre ds → St ⟨w, H, B, [], T⟩ t (start0 N.length ds) { nx := fun _ => post ds .non, rt := fun r _ => ∃ d, r = .d d ∧ post ds d }) :
    FnOk P w K mg base CX0 (k + 1) f fd ps (spR w T pre post) := by
  obtain ⟨oc, od, dV, kV, doc, pm, an, cdv, ct, osl, rfl, lk, hcd, _, _⟩ := F.ex
  have e : cdv = .ref cD := hc
  subst e
  refine fn_of lk hcd S (spR_len hpre) fun A outer s H vs Q E hr h => ?_
  obtain ⟨B, ds, h1, h2, h3, r, hp, q⟩ := h
  obtain ⟨t, ht, hs⟩ := hb A outer s H E hr
  refine ⟨t, ht.nox, hs H B ds hp (L2.start N vs) H B (env_start h1 h2 h3 r) _ ⟨?_, ?_, ?_, ?_⟩⟩
  · intro σ H' B' Γ I _ hq
    exact q .non .non H' B' I.toGrow R.non hq
  · rintro σ H' B' Γ v r I _ hr ⟨d, rfl, hq⟩
    exact q v d H' B' I.toGrow hr hq
  · intro σ H' B' Γ I _ hq
    exact hq.elim
  · intro σ H' B' Γ I _ hq
    exact hq.elim
/-- first_text, by its name -/
structure KFt (P : Program) (w : World) (K : PySem.W.Frag) (mg : Str → Option Value) (base : Heap) (T : List NTab) : Prop where
  ex : ∃ (f : Addr) (fd : FuncData) (ps : List Str), FtOk P w K mg base T 1 2 f fd ps ∧ mg "first_text" = some (.ref f) ∧ PySem.W.keepIn K (.ref f) = true ∧ Binds K fd ps []
/-- what is known of the code object of a def that makes a def -/
structure Tb (base : Heap) (mg : Str → Option Value) (T : List NTab) (fd : FuncData) (q : Str) : Prop where
  ex : ∃ (c p : Addr), fd.code = .ref c ∧ TabB base mg c p ∧ (p, fun _ _ => q) ∈ T ∧ ∀ z ∈ T, z.1 = p → z.2 = fun _ _ => q
end Gm
namespace Gm
open PySem PySem.Spec PyProof.Rows L2
local macro_rules | `(tactic| walk_at "gm") => `(tactic| first
  | (with_reducible refine st_seq ?_)
  | ((with_reducible show Tg _ (gName _) _ _ _); refine tg_nameG rfl ?_)
  | ((with_reducible show Tg _ (gTup _ _ _) _ _ _); refine tg_tup (by rfl) ?_)
  | (with_reducible refine tgs_cons ?_)
  | (with_reducible refine tgs_nil ?_)
  | (with_reducible refine tgin_name (by decide))
  | (with_reducible refine tgin_tup ?_)
  | (with_reducible refine tgsin_cons ?_ ?_ ?_ ?_)
  | (with_reducible exact tgsin_nil)
  | (with_reducible exact tgm_name)
  | (with_reducible refine tgm_tup ?_)
  | (with_reducible refine tgsm_cons ?_ ?_)
  | (with_reducible exact tgsm_nil)
  | (with_reducible refine ev_neg ?_)
  | ((with_reducible show ∃ i, Rz.d (D.int _) = Rz.d (D.int i) ∧ _); refine ⟨_, rfl, ?_⟩)
  | (with_reducible refine it_enumG ?_)
  | (with_reducible refine it_rngG ?_)
  | (with_reducible refine st_if ?_)
  | (with_reducible refine st_ret ?_)
  | (with_reducible refine st_retN ?_)
  | (with_reducible refine st_drop ?_)
  | (with_reducible refine st_next ?_)
  | (with_reducible refine st_cont ?_)
  | (with_reducible refine et_B ?_)
  | (with_reducible refine et_test ?_)
  | (with_reducible refine et_not ?_)
  | (with_reducible refine et_and ?_)
  | (with_reducible refine et_or ?_)
  | (with_reducible refine ev_andV ?_)
  | (with_reducible refine ev_orV ?_)
  | (with_reducible refine ev_notV ?_)
  | (with_reducible refine ev_if ?_)
  | (with_reducible refine ev_chain ?_)
  | (with_reducible refine ev_op' ?_)
  | (with_reducible refine ev_tupG ?_)
  | (with_reducible refine ev_lstG ?_)
  | (with_reducible refine ev_callG rs_nil rfl rfl ?_)
  | (with_reducible refine ev_cb ?_)
  | (with_reducible refine ev_bm ?_)
  | (with_reducible refine ev_bm0 ?_)
  | (with_reducible refine ev_m1 ?_)
  | (with_reducible refine ev_slice ?_)
  | (with_reducible refine eo_none ?_)
  | (with_reducible refine eo_some ?_)
  | (with_reducible refine ea_cons' ?_)
  | (with_reducible refine ea_nil ?_)
  | ((with_reducible show Ev _ (tVar _) _ _); refine ev_var rfl rfl ?_)
  | (with_reducible refine ev_int ?_)
  | (with_reducible refine ev_str ?_)
  | (with_reducible refine ev_bl ?_)
  | (with_reducible refine ev_non ?_)
  | ((with_reducible show Ev _ (tC (V.ty _)) _ _); refine ev_cx ?_)
  | ((with_reducible show ∃ b, Rz.d (D.bl _) = Rz.d (D.bl b) ∧ _); refine ⟨_, rfl, ?_⟩)
  | ((with_reducible show ∃ ds, unDs _ = some ds ∧ _); refine ⟨_, rfl, ?_⟩)
  | ((with_reducible show List.length _ ≤ 100000 ∧ _); refine and_ble rfl ?_)
  | ((with_reducible show Cb _ (rIsi _) _ _ _); refine cb_isT rfl rfl rfl (by decide) ?_)
  | ((with_reducible show Cb _ (fun xs H Q => ∃ x n, xs = [x] ∧ LenV _ x H n ∧ Q (.int n) H) _ _ _); refine cb_lenG rfl rfl ?_)
  | ((with_reducible show Op2 _ (orR rEq _) _ _ _ _); first | refine op_eqI rfl rfl ?_ | refine op_eqS rfl rfl ?_)
  | ((with_reducible show Op2 _ (orR rNe _) _ _ _ _); first | refine op_neI rfl rfl ?_ | refine op_neB rfl rfl ?_)
  | ((with_reducible show Op2 _ (rI0 _) _ _ _ _); first | refine op_cmpI rfl rfl ?_ | refine op_subI rfl rfl ?_)
  | ((with_reducible show Op2 _ (orR (rI0 _) _) _ _ _ _); refine op_addI rfl rfl ?_)
  | ((with_reducible show Op2 _ (fun x y H Q => y = V.non ∧ _) _ _ _ _); first | refine op_is rfl rfl ?_ | refine op_isnot rfl rfl ?_)
  | ((with_reducible show Op2 _ (fun x y H Q => ∃ (c : Nat) (z : Str), x = V.str ⟨#[c]⟩ ∧ _) _ _ _ _); refine op_inSign rfl rfl ?_)
  | ((with_reducible show Op2 _ (rIx _) _ _ _ _); refine op_ix rfl rfl rfl (fun _ z => by cases z) ?_)
  | (with_reducible refine ev_newN rfl ?_)
  | (with_reducible refine ev_newI ?_)
  | ((with_reducible show Cb _ (fun xs H Q => (∃ i, xs = [V.int i] ∧ _) ∨ _) _ _ _); refine cb_intB rfl ?_)
  | ((with_reducible show Op2 _ (rIn _ _) _ _ _ _); refine op_inL rfl rfl ?_)
  | (with_reducible refine it_listG ?_)
  | (with_reducible refine et_yes ?_)
  | ((with_reducible show ∃ ds, unD _ = some (D.lst ds) ∧ _); refine ⟨_, rfl, ?_⟩)
  | ((with_reducible show ∃ ds, unDs _ = some [D.lst ds] ∧ _); refine ⟨_, rfl, ?_⟩)
  | ((with_reducible show ∃ n, unDs _ = some [iD n] ∧ _); refine ⟨_, rfl, ?_⟩)
  | ((with_reducible show (∃ d, vw _ _ = some d ∧ tyD _ d) ∧ _); refine ⟨⟨_, rfl, rfl⟩, ?_⟩)
  | ((with_reducible show Mt _ rAppend (Rz.o _) [Rz.d _] _ _); refine mt_app rfl ?_ ?_)
  | (with_reducible refine it_enumS ?_)
  | ((with_reducible show ∃ s, unDs _ = some [D.str s] ∧ _); refine ⟨_, rfl, ?_⟩))
abbrev s_is_sign : Stmt := topS 10
theorem sc_is_sign : FnScope ["thing"] ["thing"] (defScope s_is_sign) := ⟨rfl, rfl, rfl, by decide +kernel, rfl, by decide +kernel, by decide +kernel⟩
abbrev s_is_whole : Stmt := topS 14
theorem sc_is_whole : FnScope ["thing"] ["thing"] (defScope s_is_whole) := ⟨rfl, rfl, rfl, by decide +kernel, rfl, by decide +kernel, by decide +kernel⟩
abbrev s_is_within : Stmt := topS 15
theorem sc_is_within : FnScope ["thing", "least", "most"] ["thing", "least", "most"] (defScope s_is_within) := ⟨rfl, rfl, rfl, by decide +kernel, rfl, by decide +kernel, by decide +kernel⟩
abbrev s_look_at_rooms : Stmt := topS 16
theorem sc_look_at_rooms : FnScope ["many", "part", "thing", "last", "number", "room"] ["many", "part", "thing"] (defScope s_look_at_rooms) := ⟨rfl, rfl, rfl, by decide +kernel, rfl, by decide +kernel, by decide +kernel⟩
abbrev s_is_step : Stmt := topS 17
theorem sc_is_step : FnScope ["many", "thing"] ["many", "thing"] (defScope s_is_step) := ⟨rfl, rfl, rfl, by decide +kernel, rfl, by decide +kernel, by decide +kernel⟩
abbrev s_look_at_steps : Stmt := topS 18
theorem sc_look_at_steps : FnScope ["many", "thing", "seen", "number", "step"] ["many", "thing"] (defScope s_look_at_steps) := ⟨rfl, rfl, rfl, by decide +kernel, rfl, by decide +kernel, by decide +kernel⟩
abbrev s_look_at : Stmt := topS 19
theorem sc_look_at : FnScope ["thing", "many", "firsts", "lasts", "steps"] ["thing"] (defScope s_look_at) := ⟨rfl, rfl, rfl, by decide +kernel, rfl, by decide +kernel, by decide +kernel⟩
abbrev s_look_at_room : Stmt := topS 20
theorem sc_look_at_room : FnScope ["machine", "room"] ["machine", "room"] (defScope s_look_at_room) := ⟨rfl, rfl, rfl, by decide +kernel, rfl, by decide +kernel, by decide +kernel⟩
abbrev pr_is_sign (ds : List D) : Prop := ∃ c, isL c ∧ ds = [sg c]
abbrev po_is_sign (ds : List D) (d : D) : Prop := d = .bl true
abbrev K_is_sign (P : Program) (w : World) (K : PySem.W.Frag) (mg : Str → Option Value) (base : Heap) (T : List NdefX.NTab) : Prop := KnR P w K mg base T "is_sign" 1 [] pr_is_sign po_is_sign
abbrev pr_is_whole (ds : List D) : Prop := ∃ i : Int, ds = [.int i]
abbrev po_is_whole (ds : List D) (d : D) : Prop := d = .bl true
abbrev K_is_whole (P : Program) (w : World) (K : PySem.W.Frag) (mg : Str → Option Value) (base : Heap) (T : List NdefX.NTab) : Prop := KnR P w K mg base T "is_whole" 1 [] pr_is_whole po_is_whole
abbrev pr_is_within (ds : List D) : Prop := ∃ i a b : Int, a ≤ i ∧ i ≤ b ∧ ds = [.int i, .int a, .int b]
abbrev po_is_within (ds : List D) (d : D) : Prop := d = .bl true
abbrev K_is_within (P : Program) (w : World) (K : PySem.W.Frag) (mg : Str → Option Value) (base : Heap) (T : List NdefX.NTab) : Prop := KnR P w K mg base T "is_within" 2 [] pr_is_within po_is_within
abbrev pr_look_at_rooms (ds : List D) : Prop := ∃ (n : Nat) (p : Str) (l : List Nat), n ≤ 12 ∧ l.Pairwise (· < ·) ∧ (∀ r ∈ l, r < n) ∧ ds = [iD n, .str p, iLs l]
abbrev po_look_at_rooms (ds : List D) (d : D) : Prop := d = .non
abbrev K_look_at_rooms (P : Program) (w : World) (K : PySem.W.Frag) (mg : Str → Option Value) (base : Heap) (T : List NdefX.NTab) : Prop := KnR P w K mg base T "look_at_rooms" 3 [] pr_look_at_rooms po_look_at_rooms
abbrev pr_is_step (ds : List D) : Prop := ∃ (n : Nat) (s : Nat × Nat × Nat), s.1 < n ∧ isL s.2.1 ∧ s.2.2 < n ∧ ds = [iD n, stD s]
abbrev po_is_step (ds : List D) (d : D) : Prop := d = .bl true
abbrev K_is_step (P : Program) (w : World) (K : PySem.W.Frag) (mg : Str → Option Value) (base : Heap) (T : List NdefX.NTab) : Prop := KnR P w K mg base T "is_step" 3 [] pr_is_step po_is_step
abbrev pr_look_at_steps (ds : List D) : Prop := ∃ (n : Nat) (st : List (Nat × Nat × Nat)), st.length ≤ 200 ∧ st.Nodup ∧ (∀ s ∈ st, s.1 < n ∧ isL s.2.1 ∧ s.2.2 < n) ∧ ds = [iD n, .lst (st.map stD)]
abbrev po_look_at_steps (ds : List D) (d : D) : Prop := d = .non
abbrev K_look_at_steps (P : Program) (w : World) (K : PySem.W.Frag) (mg : Str → Option Value) (base : Heap) (T : List NdefX.NTab) : Prop := KnR P w K mg base T "look_at_steps" 4 [] pr_look_at_steps po_look_at_steps
abbrev pr_look_at (ds : List D) : Prop := ∃ m : Mach, m.Ok ∧ ds = [m.d]
abbrev po_look_at (ds : List D) (d : D) : Prop := d = .non
abbrev K_look_at (P : Program) (w : World) (K : PySem.W.Frag) (mg : Str → Option Value) (base : Heap) (T : List NdefX.NTab) : Prop := KnR P w K mg base T "look_at" 5 [] pr_look_at po_look_at
abbrev pr_look_at_room (ds : List D) : Prop := ∃ x y : D, False ∧ ds = [x, y]
abbrev po_look_at_room (ds : List D) (d : D) : Prop := d = .non
abbrev K_look_at_room (P : Program) (w : World) (K : PySem.W.Frag) (mg : Str → Option Value) (base : Heap) (T : List NdefX.NTab) : Prop := KnR P w K mg base T "look_at_room" 3 [] pr_look_at_room po_look_at_room
section
variable {P : Program} {w : World} {K : PySem.W.Frag} {mg : Str → Option Value} {base : Heap} {T : List NdefX.NTab} {f : Addr} {fd : FuncData}
theorem ok_is_sign (F : FnP K "is_sign" "is_sign" s_is_sign [] f fd) (g : Bl mg) (c : Cn mg)  : FnOk P w K mg base CX0 1 f fd ["thing"] (spR w T pr_is_sign po_is_sign) := by
  refine fnR F sc_is_sign ?_ fun cdv A outer s H E hr => ?_
  · rintro ds h
    (repeat (obtain ⟨_, h⟩ := h))
    first
      | rfl
      | (subst h; rfl)
  have hu := hr.units
  have hu1 := hu_of hr
  have nd := sc_is_sign.nd
  refine ⟨_, (pss_one (ps_ret (pe_and (pe_callB (kcall_isi (K := K)) (by rfl) g.isinstance boot_isinstance (pa_cons (pv 0) (pa_cons (pe_bltn (v := .ty "str") (u := .type "str") (by rfl) g.str boot_str rfl) pa_nil))) (pe_and (pe_cmpR (kop_EQ (K := K) hu) (pe_callB (kcall_len (K := K)) (by rfl) g.len boot_len (pa_cons (pv 0) pa_nil)) pe_int (nomark _)) (pe_one (pe_cmpR op_in_sign (pv 0) (pe_kc (by rfl) c.LETTERS) (by rfl))))))), fun H B ds hp => ?_⟩
  obtain ⟨c, hc, rfl⟩ := hp
  repeat walk_at "gm"
  refine tk_t rfl ?_
  repeat walk_at "gm"
  refine ⟨by show 1 ≤ 100000; decide, ?_⟩
  repeat walk_at "gm"
  refine tk_t (by rfl) ?_
  repeat walk_at "gm"
  exact ⟨_, rfl, by rw [decide_eq_true (isL_in hc)]⟩
theorem ok_is_whole (F : FnP K "is_whole" "is_whole" s_is_whole [] f fd) (g : Bl mg) (c : Cn mg)  : FnOk P w K mg base CX0 1 f fd ["thing"] (spR w T pr_is_whole po_is_whole) := by
  refine fnR F sc_is_whole ?_ fun cdv A outer s H E hr => ?_
  · rintro ds h
    (repeat (obtain ⟨_, h⟩ := h))
    first
      | rfl
      | (subst h; rfl)
  have hu := hr.units
  have hu1 := hu_of hr
  have nd := sc_is_whole.nd
  refine ⟨_, (pss_one (ps_ret (pe_and (pe_callB (kcall_isi (K := K)) (by rfl) g.isinstance boot_isinstance (pa_cons (pv 0) (pa_cons (pe_bltn (v := .ty "int") (u := .type "int") (by rfl) g.int boot_int rfl) pa_nil))) (pe_one (pe_not (pe_callB (kcall_isi (K := K)) (by rfl) g.isinstance boot_isinstance (pa_cons (pv 0) (pa_cons (pe_bltn (v := .ty "bool") (u := .type "bool") (by rfl) g.bool boot_bool rfl) pa_nil)))))))), fun H B ds hp => ?_⟩
  obtain ⟨i, rfl⟩ := hp
  repeat walk_at "gm"
  refine tk_t rfl ?_
  repeat walk_at "gm"
  exact ⟨_, rfl, rfl⟩
theorem ok_is_within (F : FnP K "is_within" "is_within" s_is_within [] f fd) (g : Bl mg) (c : Cn mg) (h_is_whole : K_is_whole P w K mg base T) : FnOk P w K mg base CX0 2 f fd ["thing", "least", "most"] (spR w T pr_is_within po_is_within) := by
  refine fnR F sc_is_within ?_ fun cdv A outer s H E hr => ?_
  · rintro ds h
    (repeat (obtain ⟨_, h⟩ := h))
    first
      | rfl
      | (subst h; rfl)
  have hu := hr.units
  have hu1 := hu_of hr
  have nd := sc_is_within.nd
  refine ⟨_, (pss_one (ps_ret (pe_and (pe_kn h_is_whole (hr.mono (by decide)) (by rfl) (pa_cons (pv 0) pa_nil)) (pe_one (pe_chain op_le op_le (pv 1) (pv 0) (pv 2)))))), fun H B ds hp => ?_⟩
  obtain ⟨i, a, b, h1, h2, rfl⟩ := hp
  repeat walk_at "gm"
  refine ⟨⟨i, rfl⟩, fun d e => ?_⟩
  subst e
  repeat walk_at "gm"
  refine tk_t rfl ?_
  repeat walk_at "gm"
  refine tk_t (decide_eq_true h1) ?_
  repeat walk_at "gm"
  exact ⟨_, rfl, by rw [decide_eq_true h2]⟩
theorem ok_look_at_rooms (F : FnP K "look_at_rooms" "look_at_rooms" s_look_at_rooms [] f fd) (g : Bl mg) (c : Cn mg) (h_is_within : K_is_within P w K mg base T) : FnOk P w K mg base CX0 3 f fd ["many", "part", "thing"] (spR w T pr_look_at_rooms po_look_at_rooms) := by
  refine fnR F sc_look_at_rooms ?_ fun cdv A outer s H E hr => ?_
  · rintro ds h
    (repeat (obtain ⟨_, h⟩ := h))
    first
      | rfl
      | (subst h; rfl)
  have hu := hr.units
  have hu1 := hu_of hr
  have nd := sc_look_at_rooms.nd
  refine ⟨_, (pss_cons (ps_if (pt_not (pt_val (pe_callB (kcall_isi (K := K)) (by rfl) g.isinstance boot_isinstance (pa_cons (pv 2) (pa_cons (pe_bltn (v := .ty "list") (u := .type "list") (by rfl) g.list boot_list rfl) pa_nil))))) (pss_one ps_never) pss_nil)
  (pss_cons (ps_set (i := 3) nd rfl (by first | exact Or.inl rfl | exact Or.inr rfl) (pe_un un_neg pe_int))
  (pss_one (ps_for PassesOwn.never rfl (kpi (t' := iEnum K _) (pi_enum (by rfl) g.enumerate (pa_cons (pv 2) pa_nil))) (kpg_tup (K := K) (n := 2) rfl (pgs_cons (pg_name (i := 4) nd rfl (by first | exact Or.inl rfl | exact Or.inr rfl)) (pgs_cons (pg_name (i := 5) nd rfl (by first | exact Or.inl rfl | exact Or.inr rfl)) pgs_nil))) (pss_cons (ps_if (pt_not (pt_val (pe_kn h_is_within (hr.mono (by decide)) (by rfl) (pa_cons (pv 5) (pa_cons (pe_op op_ADD (pv 3) pe_int) (pa_cons (pe_op op_sub (pv 0) pe_int) pa_nil)))))) (pss_one ps_never) pss_nil)
  (pss_one (ps_set (i := 3) nd rfl (by first | exact Or.inl rfl | exact Or.inr rfl) (pv 5)))))))), fun H B ds hp => ?_⟩
  obtain ⟨n, p, l, hn, hs, hr, rfl⟩ := hp
  repeat walk_at "gm"
  refine tk_f (by rfl) ?_
  repeat walk_at "gm"
  refine st_asg ?_
  repeat walk_at "gm"
  refine st_forG (fun i x => .tup [iD i, iD x]) l (fun q Γ => ∃ (x : Int) (a b : Kd), Γ = [.dat (iD n), .dat (.str p), .dat (iLs l), .dat (.int x), a, b] ∧ -1 ≤ x ∧ ∀ y ∈ l, y ∉ q → x < (y : Int)) ?_
  repeat walk_at "gm"
  refine ⟨idx_enum iD, ⟨_, _, _, rfl, by decide, fun y _ _ => by omega⟩, fun q x r e Γ ⟨z, a, b, hΓ, h1, h2⟩ => ?_, fun Γ _ => rfl⟩
  subst hΓ
  have hx : x ∈ l := by rw [e]; simp
  have hq : x ∉ q := fun m => by
    rw [e] at hs
    have := (List.pairwise_append.mp hs).2.2 x m x List.mem_cons_self
    omega
  have h3 := h2 x hx hq
  have h4 := hr x hx
  repeat walk_at "gm"
  refine ⟨⟨_, _, _, by omega, by omega, rfl⟩, fun d e => ?_⟩
  subst e
  repeat walk_at "gm"
  refine tk_f rfl ?_
  repeat walk_at "gm"
  refine st_asg ?_
  repeat walk_at "gm"
  refine ⟨_, _, _, rfl, by omega, fun y hy hn => ?_⟩
  have h5 : y ∈ r := by
    rw [e] at hy
    simp only [List.mem_append, List.mem_cons, List.not_mem_nil, or_false] at hy hn
    rcases hy with h | h | h
    · exact absurd (.inl h) hn
    · exact absurd (.inr h) hn
    · exact h
  rw [e] at hs
  have := List.rel_of_pairwise_cons (List.pairwise_append.mp hs).2.1 h5
  omega
theorem ok_is_step (F : FnP K "is_step" "is_step" s_is_step [] f fd) (g : Bl mg) (c : Cn mg) (h_is_sign : K_is_sign P w K mg base T) (h_is_within : K_is_within P w K mg base T) : FnOk P w K mg base CX0 3 f fd ["many", "thing"] (spR w T pr_is_step po_is_step) := by
  refine fnR F sc_is_step ?_ fun cdv A outer s H E hr => ?_
  · rintro ds h
    (repeat (obtain ⟨_, h⟩ := h))
    first
      | rfl
      | (subst h; rfl)
  have hu := hr.units
  have hu1 := hu_of hr
  have nd := sc_is_step.nd
  refine ⟨_, (pss_cons (ps_if (PW.pt (pw_or (pt_not (pt_val (pe_callB (kcall_isi (K := K)) (by rfl) g.isinstance boot_isinstance (pa_cons (pv 1) (pa_cons (pe_bltn (v := .ty "tuple") (u := .type "tuple") (by rfl) g.tuple boot_tuple rfl) pa_nil))))) (pw_or (pt_cmpR (kop_NE (K := K) hu) (pe_callB (kcall_len (K := K)) (by rfl) g.len boot_len (pa_cons (pv 1) pa_nil)) pe_int (nomark _)) (pw_or1 (pt_not (pt_val (pe_kn h_is_sign (hr.mono (by decide)) (by rfl) (pa_cons (pe_ix (kix_seq (K := K)) (pv 1) pe_int (fun _ _ => rfl)) pa_nil)))))))) (pss_one (ps_ret pe_bl)) pss_nil)
  (pss_one (ps_ret (pe_and (pe_kn h_is_within (hr.mono (by decide)) (by rfl) (pa_cons (pe_ix (kix_seq (K := K)) (pv 1) pe_int (fun _ _ => rfl)) (pa_cons pe_int (pa_cons (pe_op op_sub (pv 0) pe_int) pa_nil)))) (pe_one (pe_kn h_is_within (hr.mono (by decide)) (by rfl) (pa_cons (pe_ix (kix_seq (K := K)) (pv 1) pe_int (fun _ _ => rfl)) (pa_cons pe_int (pa_cons (pe_op op_sub (pv 0) pe_int) pa_nil))))))))), fun H B ds hp => ?_⟩
  obtain ⟨n, s, h1, h2, h3, rfl⟩ := hp
  repeat walk_at "gm"
  refine tk_f (by rfl) ?_
  repeat walk_at "gm"
  refine tk_f (by rfl) ?_
  repeat walk_at "gm"
  refine ⟨⟨_, h2, rfl⟩, fun d e => ?_⟩
  subst e
  repeat walk_at "gm"
  refine tk_f (by rfl) ?_
  repeat walk_at "gm"
  refine ⟨⟨_, _, _, by omega, by omega, rfl⟩, fun d e => ?_⟩
  subst e
  repeat walk_at "gm"
  refine tk_t rfl ?_
  repeat walk_at "gm"
  refine ⟨⟨_, _, _, by omega, by omega, rfl⟩, fun d e => ?_⟩
  subst e
  exact ⟨_, rfl, rfl⟩
theorem ok_look_at_steps (F : FnP K "look_at_steps" "look_at_steps" s_look_at_steps [] f fd) (g : Bl mg) (c : Cn mg) (h_is_step : K_is_step P w K mg base T) : FnOk P w K mg base CX0 4 f fd ["many", "thing"] (spR w T pr_look_at_steps po_look_at_steps) := by
  refine fnR F sc_look_at_steps ?_ fun cdv A outer s H E hr => ?_
  · rintro ds h
    (repeat (obtain ⟨_, h⟩ := h))
    first
      | rfl
      | (subst h; rfl)
  have hu := hr.units
  have hu1 := hu_of hr
  have nd := sc_look_at_steps.nd
  refine ⟨_, (pss_cons (ps_if (PW.pt (pw_or (pt_not (pt_val (pe_callB (kcall_isi (K := K)) (by rfl) g.isinstance boot_isinstance (pa_cons (pv 1) (pa_cons (pe_bltn (v := .ty "list") (u := .type "list") (by rfl) g.list boot_list rfl) pa_nil))))) (pw_or1 (pt_cmpR op_gt (pe_callB (kcall_len (K := K)) (by rfl) g.len boot_len (pa_cons (pv 1) pa_nil)) (pe_kc (by rfl) c.MOST_STEPS) (nomark _))))) (pss_one ps_never) pss_nil)
  (pss_cons (ps_set (i := 2) nd rfl (by first | exact Or.inl rfl | exact Or.inr rfl) (kpe (t' := tNewN w) pe_dnewN))
  (pss_one (ps_for PassesOwn.never rfl (kpi (t' := iEnum K _) (pi_enum (by rfl) g.enumerate (pa_cons (pv 1) pa_nil))) (kpg_tup (K := K) (n := 2) rfl (pgs_cons (pg_name (i := 3) nd rfl (by first | exact Or.inl rfl | exact Or.inr rfl)) (pgs_cons (pg_name (i := 4) nd rfl (by first | exact Or.inl rfl | exact Or.inr rfl)) pgs_nil))) (pss_cons (ps_if (PW.pt (pw_or (pt_not (pt_val (pe_kn h_is_step (hr.mono (by decide)) (by rfl) (pa_cons (pv 0) (pa_cons (pv 4) pa_nil))))) (pw_or1 (pt_cmpR (kop_inDN (w := w) hu) (pv 4) (pv 2) (by rfl))))) (pss_one ps_never) pss_nil)
  (pss_one (ps_asg pe_bl (pg_sub (pv 2) (pv 4) (kset_dN (w := w) hu))))))))), fun H B ds hp => ?_⟩
  obtain ⟨n, st, hl, hn, hs, rfl⟩ := hp
  repeat walk_at "gm"
  refine tk_f (by rfl) ?_
  repeat walk_at "gm"
  refine ⟨by rw [List.length_map]; omega, ?_⟩
  repeat walk_at "gm"
  refine tk_f (decide_eq_false (by rw [List.length_map]; omega)) ?_
  repeat walk_at "gm"
  refine st_asg ?_
  repeat walk_at "gm"
  refine st_forG (fun i x => .tup [iD i, stD x]) st (fun q Γ => ∃ (a b : Kd), Γ = [.dat (iD n), .dat (.lst (st.map stD)), .ob true (.dN (q.map fun s => (stD s, .bl true))), a, b]) ?_
  repeat walk_at "gm"
  refine ⟨idx_enum stD, ⟨_, _, rfl⟩, fun q x r e Γ ⟨a, b, hΓ⟩ => ?_, fun Γ _ => rfl⟩
  subst hΓ
  have hx : x ∈ st := by rw [e]; simp
  have hq : x ∉ q := fun m => by
    rw [e] at hn
    exact (List.nodup_append.mp hn).2.2 x m x List.mem_cons_self rfl
  have hql : q.length ≤ 200 := by rw [e, List.length_append] at hl; omega
  obtain ⟨h1, h2, h3⟩ := hs x hx
  have ha : atN (q.map fun s => (stD s, D.bl true)) (kyD (stD x)) = none := atN_none fun a ha z => hq (by rw [← ky_step z]; exact ha)
  repeat walk_at "gm"
  refine ⟨⟨_, _, h1, h2, h3, rfl⟩, fun d e => ?_⟩
  subst e
  repeat walk_at "gm"
  refine tk_f rfl ?_
  repeat walk_at "gm"
  refine op_inN rfl (keyOk_step x) rfl rfl ⟨_, rfl, ?_⟩
  rw [ha]
  refine tk_f rfl ?_
  repeat walk_at "gm"
  refine st_putN rfl ?_
  repeat walk_at "gm"
  refine ⟨_, rfl, ⟨_, _, rfl⟩, ?_⟩
  repeat walk_at "gm"
  refine ⟨_, _, _, rfl, keyOk_step x, rfl, by rw [List.length_map]; omega, ?_⟩
  rw [stN_new ha]
  exact ⟨_, _, by rw [List.map_append]; rfl⟩
theorem ok_look_at (F : FnP K "look_at" "look_at" s_look_at [] f fd) (g : Bl mg) (c : Cn mg) (h_is_within : K_is_within P w K mg base T) (h_look_at_rooms : K_look_at_rooms P w K mg base T) (h_look_at_steps : K_look_at_steps P w K mg base T) : FnOk P w K mg base CX0 5 f fd ["thing"] (spR w T pr_look_at po_look_at) := by
  refine fnR F sc_look_at ?_ fun cdv A outer s H E hr => ?_
  · rintro ds h
    (repeat (obtain ⟨_, h⟩ := h))
    first
      | rfl
      | (subst h; rfl)
  have hu := hr.units
  have hu1 := hu_of hr
  have nd := sc_look_at.nd
  refine ⟨_, (pss_cons (ps_if (PW.pt (pw_or (pt_not (pt_val (pe_callB (kcall_isi (K := K)) (by rfl) g.isinstance boot_isinstance (pa_cons (pv 0) (pa_cons (pe_bltn (v := .ty "tuple") (u := .type "tuple") (by rfl) g.tuple boot_tuple rfl) pa_nil))))) (pw_or1 (pt_cmpR (kop_NE (K := K) hu) (pe_callB (kcall_len (K := K)) (by rfl) g.len boot_len (pa_cons (pv 0) pa_nil)) pe_int (nomark _))))) (pss_one ps_never) pss_nil)
  (pss_cons (ps_asg (pv 0) (kpg_tup (K := K) (n := 4) rfl (pgs_cons (pg_name (i := 1) nd rfl (by first | exact Or.inl rfl | exact Or.inr rfl)) (pgs_cons (pg_name (i := 2) nd rfl (by first | exact Or.inl rfl | exact Or.inr rfl)) (pgs_cons (pg_name (i := 3) nd rfl (by first | exact Or.inl rfl | exact Or.inr rfl)) (pgs_cons (pg_name (i := 4) nd rfl (by first | exact Or.inl rfl | exact Or.inr rfl)) pgs_nil))))))
  (pss_cons (ps_if (pt_not (pt_val (pe_kn h_is_within (hr.mono (by decide)) (by rfl) (pa_cons (pv 1) (pa_cons pe_int (pa_cons (pe_kc (by rfl) c.MOST_ROOMS) pa_nil)))))) (pss_one ps_never) pss_nil)
  (pss_cons (ps_expr (pe_kn h_look_at_rooms (hr.mono (by decide)) (by rfl) (pa_cons (pv 1) (pa_cons pe_str (pa_cons (pv 2) pa_nil)))))
  (pss_cons (ps_expr (pe_kn h_look_at_rooms (hr.mono (by decide)) (by rfl) (pa_cons (pv 1) (pa_cons pe_str (pa_cons (pv 3) pa_nil)))))
  (pss_one (ps_expr (pe_kn h_look_at_steps (hr.mono (by decide)) (by rfl) (pa_cons (pv 1) (pa_cons (pv 4) pa_nil)))))))))), fun H B ds hp => ?_⟩
  obtain ⟨m, hm, rfl⟩ := hp
  have h12 := hm.n2
  repeat walk_at "gm"
  refine tk_f (by rfl) ?_
  repeat walk_at "gm"
  refine tk_f (by rfl) ?_
  repeat walk_at "gm"
  refine st_asg ?_
  repeat walk_at "gm"
  refine ⟨⟨_, _, _, by have := hm.n1; omega, by omega, rfl⟩, fun d e => ?_⟩
  subst e
  repeat walk_at "gm"
  refine tk_f rfl ?_
  repeat walk_at "gm"
  refine ⟨⟨_, _, _, hm.n2, hm.fsS, hm.fsN, rfl⟩, fun d e => ?_⟩
  repeat walk_at "gm"
  refine ⟨⟨_, _, _, hm.n2, hm.lsS, hm.lsN, rfl⟩, fun d e => ?_⟩
  repeat walk_at "gm"
  refine ⟨⟨_, _, hm.stL, hm.stD, hm.stN, rfl⟩, fun d e => ?_⟩
  rfl
theorem ok_look_at_room (F : FnP K "look_at_room" "look_at_room" s_look_at_room [] f fd) (g : Bl mg) (c : Cn mg) (h_is_within : K_is_within P w K mg base T) : FnOk P w K mg base CX0 3 f fd ["machine", "room"] (spR w T pr_look_at_room po_look_at_room) := by
  refine fnR F sc_look_at_room ?_ fun cdv A outer s H E hr => ?_
  · rintro ds h
    (repeat (obtain ⟨_, h⟩ := h))
    first
      | rfl
      | (subst h; rfl)
  have hu := hr.units
  have hu1 := hu_of hr
  have nd := sc_look_at_room.nd
  refine ⟨_, (pss_one (ps_if (pt_not (pt_val (pe_kn h_is_within (hr.mono (by decide)) (by rfl) (pa_cons (pv 1) (pa_cons pe_int (pa_cons (pe_op op_sub (pe_ix (kix_seq (K := K)) (pv 0) pe_int (fun _ _ => rfl)) pe_int) pa_nil)))))) (pss_one ps_never) pss_nil)), fun H B ds hp => ?_⟩
  obtain ⟨x, y, z, _⟩ := hp
  exact z.elim
end
end Gm
namespace Gm
open PySem PySem.Spec PyProof.Rows L2
local macro_rules | `(tactic| walk_at "gm") => `(tactic| first
  | (with_reducible refine st_seq ?_)
  | ((with_reducible show Tg _ (gName _) _ _ _); refine tg_nameG rfl ?_)
  | ((with_reducible show Tg _ (gTup _ _ _) _ _ _); refine tg_tup (by rfl) ?_)
  | (with_reducible refine tgs_cons ?_)
  | (with_reducible refine tgs_nil ?_)
  | (with_reducible refine tgin_name (by decide))
  | (with_reducible refine tgin_tup ?_)
  | (with_reducible refine tgsin_cons ?_ ?_ ?_ ?_)
  | (with_reducible exact tgsin_nil)
  | (with_reducible exact tgm_name)
  | (with_reducible refine tgm_tup ?_)
  | (with_reducible refine tgsm_cons ?_ ?_)
  | (with_reducible exact tgsm_nil)
  | (with_reducible refine ev_neg ?_)
  | ((with_reducible show ∃ i, Rz.d (D.int _) = Rz.d (D.int i) ∧ _); refine ⟨_, rfl, ?_⟩)
  | (with_reducible refine it_enumG ?_)
  | (with_reducible refine it_rngG ?_)
  | (with_reducible refine st_if ?_)
  | (with_reducible refine st_ret ?_)
  | (with_reducible refine st_retN ?_)
  | (with_reducible refine st_drop ?_)
  | (with_reducible refine st_next ?_)
  | (with_reducible refine st_cont ?_)
  | (with_reducible refine et_B ?_)
  | (with_reducible refine et_test ?_)
  | (with_reducible refine et_not ?_)
  | (with_reducible refine et_and ?_)
  | (with_reducible refine et_or ?_)
  | (with_reducible refine ev_andV ?_)
  | (with_reducible refine ev_orV ?_)
  | (with_reducible refine ev_notV ?_)
  | (with_reducible refine ev_if ?_)
  | (with_reducible refine ev_chain ?_)
  | (with_reducible refine ev_op' ?_)
  | (with_reducible refine ev_tupG ?_)
  | (with_reducible refine ev_lstG ?_)
  | (with_reducible refine ev_callG rs_nil rfl rfl ?_)
  | (with_reducible refine ev_cb ?_)
  | (with_reducible refine ev_bm ?_)
  | (with_reducible refine ev_bm0 ?_)
  | (with_reducible refine ev_m1 ?_)
  | (with_reducible refine ev_slice ?_)
  | (with_reducible refine eo_none ?_)
  | (with_reducible refine eo_some ?_)
  | (with_reducible refine ea_cons' ?_)
  | (with_reducible refine ea_nil ?_)
  | ((with_reducible show Ev _ (tVar _) _ _); refine ev_var rfl rfl ?_)
  | (with_reducible refine ev_int ?_)
  | (with_reducible refine ev_str ?_)
  | (with_reducible refine ev_bl ?_)
  | (with_reducible refine ev_non ?_)
  | ((with_reducible show Ev _ (tC (V.ty _)) _ _); refine ev_cx ?_)
  | ((with_reducible show ∃ b, Rz.d (D.bl _) = Rz.d (D.bl b) ∧ _); refine ⟨_, rfl, ?_⟩)
  | ((with_reducible show ∃ ds, unDs _ = some ds ∧ _); refine ⟨_, rfl, ?_⟩)
  | ((with_reducible show List.length _ ≤ 100000 ∧ _); refine and_ble rfl ?_)
  | ((with_reducible show Cb _ (rIsi _) _ _ _); refine cb_isT rfl rfl rfl (by decide) ?_)
  | ((with_reducible show Cb _ (fun xs H Q => ∃ x n, xs = [x] ∧ LenV _ x H n ∧ Q (.int n) H) _ _ _); refine cb_lenG rfl rfl ?_)
  | ((with_reducible show Op2 _ (orR rEq _) _ _ _ _); first | refine op_eqI rfl rfl ?_ | refine op_eqS rfl rfl ?_)
  | ((with_reducible show Op2 _ (orR rNe _) _ _ _ _); first | refine op_neI rfl rfl ?_ | refine op_neB rfl rfl ?_)
  | ((with_reducible show Op2 _ (rI0 _) _ _ _ _); first | refine op_cmpI rfl rfl ?_ | refine op_subI rfl rfl ?_)
  | ((with_reducible show Op2 _ (orR (rI0 _) _) _ _ _ _); refine op_addI rfl rfl ?_)
  | ((with_reducible show Op2 _ (fun x y H Q => y = V.non ∧ _) _ _ _ _); first | refine op_is rfl rfl ?_ | refine op_isnot rfl rfl ?_)
  | ((with_reducible show Op2 _ (fun x y H Q => ∃ (c : Nat) (z : Str), x = V.str ⟨#[c]⟩ ∧ _) _ _ _ _); refine op_inSign rfl rfl ?_)
  | ((with_reducible show Op2 _ (rIx _) _ _ _ _); refine op_ix rfl rfl rfl (fun _ z => by cases z) ?_)
  | (with_reducible refine ev_newN rfl ?_)
  | (with_reducible refine ev_newI ?_)
  | ((with_reducible show Cb _ (fun xs H Q => (∃ i, xs = [V.int i] ∧ _) ∨ _) _ _ _); refine cb_intB rfl ?_)
  | ((with_reducible show Op2 _ (rIn _ _) _ _ _ _); refine op_inL rfl rfl ?_)
  | (with_reducible refine it_listG ?_)
  | (with_reducible refine et_yes ?_)
  | ((with_reducible show ∃ ds, unD _ = some (D.lst ds) ∧ _); refine ⟨_, rfl, ?_⟩)
  | ((with_reducible show ∃ ds, unDs _ = some [D.lst ds] ∧ _); refine ⟨_, rfl, ?_⟩)
  | ((with_reducible show ∃ n, unDs _ = some [iD n] ∧ _); refine ⟨_, rfl, ?_⟩)
  | ((with_reducible show (∃ d, vw _ _ = some d ∧ tyD _ d) ∧ _); refine ⟨⟨_, rfl, rfl⟩, ?_⟩)
  | ((with_reducible show Mt _ rAppend (Rz.o _) [Rz.d _] _ _); refine mt_app rfl ?_ ?_)
  | (with_reducible refine it_enumS ?_)
  | ((with_reducible show ∃ s, unDs _ = some [D.str s] ∧ _); refine ⟨_, rfl, ?_⟩))
abbrev s_rooms_text : Stmt := topS 22
theorem sc_rooms_text : FnScope ["machine", "rooms", "room"] ["machine", "rooms"] (defScope s_rooms_text) := ⟨rfl, rfl, rfl, by decide +kernel, rfl, by decide +kernel, by decide +kernel⟩
abbrev pr_rooms_text (ds : List D) : Prop := ∃ (m : Mach) (rs : List Nat), m.Ok ∧ (∀ r ∈ rs, r < m.n) ∧ ds = [m.d, iLs rs]
abbrev po_rooms_text (ds : List D) (d : D) : Prop := ∀ (m : Mach) (rs : List Nat), ds = [m.d, iLs rs] → d = .str (txt m.n rs)
abbrev K_rooms_text (P : Program) (w : World) (K : PySem.W.Frag) (mg : Str → Option Value) (base : Heap) (T : List NdefX.NTab) : Prop := KnR P w K mg base T "rooms_text" 6 [] pr_rooms_text po_rooms_text
section
variable {P : Program} {w : World} {K : PySem.W.Frag} {mg : Str → Option Value} {base : Heap} {T : List NdefX.NTab} {f : Addr} {fd : FuncData}
theorem ok_rooms_text (F : FnP K "rooms_text" "rooms_text" s_rooms_text [] f fd) (g : Bl mg) (c : Cn mg) (h_look_at : K_look_at P w K mg base T) (h_is_within : K_is_within P w K mg base T) : FnOk P w K mg base CX0 6 f fd ["machine", "rooms"] (spR w T pr_rooms_text po_rooms_text) := by
  refine fnR F sc_rooms_text ?_ fun cdv A outer s H E hr => ?_
  · rintro ds h
    (repeat (obtain ⟨_, h⟩ := h))
    first
      | rfl
      | (subst h; rfl)
  have hu := hr.units
  have hu1 := hu_of hr
  have nd := sc_rooms_text.nd
  refine ⟨_, (pss_cons (ps_expr (pe_kn h_look_at (hr.mono (by decide)) (by rfl) (pa_cons (pv 0) pa_nil)))
  (pss_cons (ps_for PassesOwn.never rfl (kpi_seq (K := K) (pv 1)) (pg_name (i := 2) nd rfl (by first | exact Or.inl rfl | exact Or.inr rfl)) (pss_one (ps_if (pt_not (pt_val (pe_kn h_is_within (hr.mono (by decide)) (by rfl) (pa_cons (pv 2) (pa_cons pe_int (pa_cons (pe_op op_sub (pe_ix (kix_seq (K := K)) (pv 0) pe_int (fun _ _ => rfl)) pe_int) pa_nil)))))) (pss_one ps_never) pss_nil)))
  (pss_one (ps_ret (pe_join pe_str (pe_lc (own := [("room", 2)]) (by rfl) nd (pi_range1 (by rfl) g.range (pa_cons (pe_ix (kix_seq (K := K)) (pv 0) pe_int (fun _ _ => rfl)) pa_nil)) (blkOk_by (own := [("room", 2)]) (N := ["machine", "rooms", "room"]) (sc := defScope s_rooms_text) (by decide +kernel)) (fun _ _ _ _ _ => (pg_name (i := 2) nd rfl (by first | exact Or.inl rfl | exact Or.inr rfl))) (fun _ _ _ _ _ => pts_nil) (fun _ _ _ _ _ => (pe_ix (kix_seq (K := K)) pe_str (pe_callTy call_int1 (by rfl) g.int boot_int (pa_cons (pe_cmpR (kop_in (K := K)) (pv 2) (pv 1) (by rfl)) pa_nil)) (fun _ _ => rfl))))))))), fun H B ds hp => ?_⟩
  obtain ⟨m, rs, hm, hr, rfl⟩ := hp
  repeat walk_at "gm"
  refine ⟨⟨m, hm, rfl⟩, fun d e => ?_⟩
  repeat walk_at "gm"
  refine st_forG (fun _ x => iD x) rs (fun q Γ => ∃ a, a.isOb = false ∧ Γ = [.dat m.d, .dat (iLs rs), a]) ?_
  repeat walk_at "gm"
  refine ⟨idx_map iD, ⟨_, rfl, rfl⟩, fun q x r e Γ ⟨a, ha, hΓ⟩ => ?_, fun Γ ⟨a, ha, hΓ⟩ => ?_⟩
  · subst hΓ
    have hx := hr x (by rw [e]; simp)
    repeat walk_at "gm"
    refine ⟨⟨_, _, _, by omega, by omega, rfl⟩, fun d e => ?_⟩
    subst e
    repeat walk_at "gm"
    refine tk_f rfl ?_
    repeat walk_at "gm"
    exact ⟨_, rfl, rfl⟩
  · subst hΓ
    repeat walk_at "gm"
    refine ⟨_, rfl, ?_⟩
    have h12 := hm.n2
    refine ev_lcM (fun _ i => iD i) (List.range m.n) (fun i => .str (s1 (if i ∈ rs then 49 else 48))) (by repeat walk_at "gm") (by repeat walk_at "gm") (by show (!a.isOb && true) = true; rw [ha]; rfl) ?_
    repeat walk_at "gm"
    refine ⟨by omega, by rw [List.length_map, List.length_range]; omega, idx_map iD, rfl, ?_, fun i x hx Ha => ?_⟩
    · refine mt_joinG rfl (ys := ((List.range m.n).map fun i => if i ∈ rs then 49 else 48).map s1) (by rw [List.map_map, List.map_map]; rfl) ?_ ?_
      · rw [sum_s1]
        show _ + _ * 0 ≤ 100000
        rw [List.length_map, List.length_range]
        omega
      · refine ⟨_, rfl, fun m' rs' e => ?_⟩
        simp only [List.cons.injEq, and_true] at e
        rw [← Mach.d_inj e.1, ← iLs_inj e.2]
        exact congrArg D.str (join_s1 _)
    · repeat walk_at "gm"
      refine op_ixS rfl rfl rfl (d := .str (s1 (if x ∈ rs then 49 else 48))) ?_ ⟨rfl, rfl⟩
      by_cases h : x ∈ rs
      · simp only [h, decide_true, if_true]; rfl
      · simp only [h, decide_false, if_false]; rfl
end
end Gm
namespace Gm
open PySem PySem.Spec PyProof.Rows L2
local macro_rules | `(tactic| walk_at "gm") => `(tactic| first
  | (with_reducible refine st_seq ?_)
  | ((with_reducible show Tg _ (gName _) _ _ _); refine tg_nameG rfl ?_)
  | ((with_reducible show Tg _ (gTup _ _ _) _ _ _); refine tg_tup (by rfl) ?_)
  | (with_reducible refine tgs_cons ?_)
  | (with_reducible refine tgs_nil ?_)
  | (with_reducible refine tgin_name (by decide))
  | (with_reducible refine tgin_tup ?_)
  | (with_reducible refine tgsin_cons ?_ ?_ ?_ ?_)
  | (with_reducible exact tgsin_nil)
  | (with_reducible exact tgm_name)
  | (with_reducible refine tgm_tup ?_)
  | (with_reducible refine tgsm_cons ?_ ?_)
  | (with_reducible exact tgsm_nil)
  | (with_reducible refine ev_neg ?_)
  | ((with_reducible show ∃ i, Rz.d (D.int _) = Rz.d (D.int i) ∧ _); refine ⟨_, rfl, ?_⟩)
  | (with_reducible refine it_enumG ?_)
  | (with_reducible refine it_rngG ?_)
  | (with_reducible refine st_if ?_)
  | (with_reducible refine st_ret ?_)
  | (with_reducible refine st_retN ?_)
  | (with_reducible refine st_drop ?_)
  | (with_reducible refine st_next ?_)
  | (with_reducible refine st_cont ?_)
  | (with_reducible refine et_B ?_)
  | (with_reducible refine et_test ?_)
  | (with_reducible refine et_not ?_)
  | (with_reducible refine et_and ?_)
  | (with_reducible refine et_or ?_)
  | (with_reducible refine ev_andV ?_)
  | (with_reducible refine ev_orV ?_)
  | (with_reducible refine ev_notV ?_)
  | (with_reducible refine ev_if ?_)
  | (with_reducible refine ev_chain ?_)
  | (with_reducible refine ev_op' ?_)
  | (with_reducible refine ev_tupG ?_)
  | (with_reducible refine ev_lstG ?_)
  | (with_reducible refine ev_callG rs_nil rfl rfl ?_)
  | (with_reducible refine ev_cb ?_)
  | (with_reducible refine ev_bm ?_)
  | (with_reducible refine ev_bm0 ?_)
  | (with_reducible refine ev_m1 ?_)
  | (with_reducible refine ev_slice ?_)
  | (with_reducible refine eo_none ?_)
  | (with_reducible refine eo_some ?_)
  | (with_reducible refine ea_cons' ?_)
  | (with_reducible refine ea_nil ?_)
  | ((with_reducible show Ev _ (tVar _) _ _); refine ev_var rfl rfl ?_)
  | (with_reducible refine ev_int ?_)
  | (with_reducible refine ev_str ?_)
  | (with_reducible refine ev_bl ?_)
  | (with_reducible refine ev_non ?_)
  | ((with_reducible show Ev _ (tC (V.ty _)) _ _); refine ev_cx ?_)
  | ((with_reducible show ∃ b, Rz.d (D.bl _) = Rz.d (D.bl b) ∧ _); refine ⟨_, rfl, ?_⟩)
  | ((with_reducible show ∃ ds, unDs _ = some ds ∧ _); refine ⟨_, rfl, ?_⟩)
  | ((with_reducible show List.length _ ≤ 100000 ∧ _); refine and_ble rfl ?_)
  | ((with_reducible show Cb _ (rIsi _) _ _ _); refine cb_isT rfl rfl rfl (by decide) ?_)
  | ((with_reducible show Cb _ (fun xs H Q => ∃ x n, xs = [x] ∧ LenV _ x H n ∧ Q (.int n) H) _ _ _); refine cb_lenG rfl rfl ?_)
  | ((with_reducible show Op2 _ (orR rEq _) _ _ _ _); first | refine op_eqI rfl rfl ?_ | refine op_eqS rfl rfl ?_)
  | ((with_reducible show Op2 _ (orR rNe _) _ _ _ _); first | refine op_neI rfl rfl ?_ | refine op_neB rfl rfl ?_)
  | ((with_reducible show Op2 _ (rI0 _) _ _ _ _); first | refine op_cmpI rfl rfl ?_ | refine op_subI rfl rfl ?_)
  | ((with_reducible show Op2 _ (orR (rI0 _) _) _ _ _ _); refine op_addI rfl rfl ?_)
  | ((with_reducible show Op2 _ (fun x y H Q => y = V.non ∧ _) _ _ _ _); first | refine op_is rfl rfl ?_ | refine op_isnot rfl rfl ?_)
  | ((with_reducible show Op2 _ (fun x y H Q => ∃ (c : Nat) (z : Str), x = V.str ⟨#[c]⟩ ∧ _) _ _ _ _); refine op_inSign rfl rfl ?_)
  | ((with_reducible show Op2 _ (rIx _) _ _ _ _); refine op_ix rfl rfl rfl (fun _ z => by cases z) ?_)
  | (with_reducible refine ev_newN rfl ?_)
  | (with_reducible refine ev_newI ?_)
  | ((with_reducible show Cb _ (fun xs H Q => (∃ i, xs = [V.int i] ∧ _) ∨ _) _ _ _); refine cb_intB rfl ?_)
  | ((with_reducible show Op2 _ (rIn _ _) _ _ _ _); refine op_inL rfl rfl ?_)
  | (with_reducible refine it_listG ?_)
  | (with_reducible refine et_yes ?_)
  | ((with_reducible show ∃ ds, unD _ = some (D.lst ds) ∧ _); refine ⟨_, rfl, ?_⟩)
  | ((with_reducible show ∃ ds, unDs _ = some [D.lst ds] ∧ _); refine ⟨_, rfl, ?_⟩)
  | ((with_reducible show ∃ n, unDs _ = some [iD n] ∧ _); refine ⟨_, rfl, ?_⟩)
  | ((with_reducible show (∃ d, vw _ _ = some d ∧ tyD _ d) ∧ _); refine ⟨⟨_, rfl, rfl⟩, ?_⟩)
  | ((with_reducible show Mt _ rAppend (Rz.o _) [Rz.d _] _ _); refine mt_app rfl ?_ ?_)
  | (with_reducible refine it_enumS ?_)
  | ((with_reducible show ∃ s, unDs _ = some [D.str s] ∧ _); refine ⟨_, rfl, ?_⟩))
abbrev s_look_at_most : Stmt := topS 25
theorem sc_look_at_most : FnScope ["most", "bound"] ["most", "bound"] (defScope s_look_at_most) := ⟨rfl, rfl, rfl, by decide +kernel, rfl, by decide +kernel, by decide +kernel⟩
abbrev s_signs_of_sets : Stmt := topS 26
theorem sc_signs_of_sets : FnScope ["machine", "room", "sign", "to"] ["machine"] (defScope s_signs_of_sets) := ⟨rfl, rfl, rfl, by decide +kernel, rfl, by decide +kernel, by decide +kernel⟩
abbrev s_signs_of_useful : Stmt := topS 34
theorem sc_signs_of_useful : FnScope ["machine", "room", "sign", "to"] ["machine"] (defScope s_signs_of_useful) := ⟨rfl, rfl, rfl, by decide +kernel, rfl, by decide +kernel, by decide +kernel⟩
abbrev s_set_by : Stmt := topS 28
theorem sc_set_by : FnScope ["machine", "rooms", "sign", "room", "letter", "to"] ["machine", "rooms", "sign"] (defScope s_set_by) := ⟨rfl, rfl, rfl, by decide +kernel, rfl, by decide +kernel, by decide +kernel⟩
abbrev pr_look_at_most (ds : List D) : Prop := ∃ i b : Int, 1 ≤ i ∧ i ≤ b ∧ ds = [.int i, .int b]
abbrev po_look_at_most (ds : List D) (d : D) : Prop := d = .non
abbrev K_look_at_most (P : Program) (w : World) (K : PySem.W.Frag) (mg : Str → Option Value) (base : Heap) (T : List NdefX.NTab) : Prop := KnR P w K mg base T "look_at_most" 3 [] pr_look_at_most po_look_at_most
def Mach.sigD (m : Mach) : D := .lst (m.sig.map sg)
abbrev pr_signs_of_sets (ds : List D) : Prop := ∃ (m : Mach), m.Ok ∧ ds = [m.d]
abbrev po_signs_of_sets (ds : List D) (d : D) : Prop := ∀ (m : Mach), ds = [m.d] → d = m.sigD
abbrev K_signs_of_sets (P : Program) (w : World) (K : PySem.W.Frag) (mg : Str → Option Value) (base : Heap) (T : List NdefX.NTab) : Prop := KnR P w K mg base T "signs_of_sets" 1 [] pr_signs_of_sets po_signs_of_sets
abbrev pr_signs_of_useful (ds : List D) : Prop := pr_signs_of_sets ds
abbrev po_signs_of_useful (ds : List D) (d : D) : Prop := po_signs_of_sets ds d
abbrev K_signs_of_useful (P : Program) (w : World) (K : PySem.W.Frag) (mg : Str → Option Value) (base : Heap) (T : List NdefX.NTab) : Prop := KnR P w K mg base T "signs_of_useful" 1 [] pr_signs_of_useful po_signs_of_useful
abbrev pr_set_by (ds : List D) : Prop := ∃ (m : Mach) (rs : List Nat) (c : Nat) (rd : D), m.Ok ∧ (rd = iTs rs ∨ rd = iLs rs) ∧ ds = [m.d, rd, sg c]
abbrev po_set_by (ds : List D) (d : D) : Prop := ∀ (m : Mach) (rs : List Nat) (c : Nat), (ds = [m.d, iTs rs, sg c] ∨ ds = [m.d, iLs rs, sg c]) → d = iTs (m.by rs c)
abbrev K_set_by (P : Program) (w : World) (K : PySem.W.Frag) (mg : Str → Option Value) (base : Heap) (T : List NdefX.NTab) : Prop := KnR P w K mg base T "set_by" 1 [] pr_set_by po_set_by
theorem sig_len {cs : List Nat} (hc : ∀ c ∈ cs, isL c) : ∀ ms : List Nat, ms.Nodup → (∀ m ∈ ms, m ∈ cs) → ms.length < 64 := fun ms hn h => by
  have h1 := nodup_sub (β := Nat) ms (List.range' 97 26) hn fun x hx => List.mem_range'_1.mpr (by obtain ⟨h1, h2⟩ := hc x (h x hx); omega)
  rw [List.length_range'] at h1
  omega
section
variable {P : Program} {w : World} {K : PySem.W.Frag} {mg : Str → Option Value} {base : Heap} {T : List NdefX.NTab} {f : Addr} {fd : FuncData}
theorem ok_look_at_most (F : FnP K "look_at_most" "look_at_most" s_look_at_most [] f fd) (g : Bl mg) (c : Cn mg) (h_is_within : K_is_within P w K mg base T) : FnOk P w K mg base CX0 3 f fd ["most", "bound"] (spR w T pr_look_at_most po_look_at_most) := by
  refine fnR F sc_look_at_most ?_ fun cdv A outer s H E hr => ?_
  · rintro ds h
    (repeat (obtain ⟨_, h⟩ := h))
    first
      | rfl
      | (subst h; rfl)
  have hu := hr.units
  have hu1 := hu_of hr
  have nd := sc_look_at_most.nd
  refine ⟨_, (pss_one (ps_if (pt_not (pt_val (pe_kn h_is_within (hr.mono (by decide)) (by rfl) (pa_cons (pv 0) (pa_cons pe_int (pa_cons (pv 1) pa_nil)))))) (pss_one ps_never) pss_nil)), fun H B ds hp => ?_⟩
  obtain ⟨i, b, h1, h2, rfl⟩ := hp
  repeat walk_at "gm"
  refine ⟨⟨_, _, _, h1, h2, rfl⟩, fun d e => ?_⟩
  subst e
  repeat walk_at "gm"
  refine tk_f rfl ?_
  repeat walk_at "gm"
  rfl
theorem ok_signs_of_sets (F : FnP K "signs_of" "signs_of" s_signs_of_sets [] f fd) (g : Bl mg) (c : Cn mg)  : FnOk P w K mg base CX0 1 f fd ["machine"] (spR w T pr_signs_of_sets po_signs_of_sets) := by
  refine fnR F sc_signs_of_sets ?_ fun cdv A outer s H E hr => ?_
  · rintro ds h
    (repeat (obtain ⟨_, h⟩ := h))
    first
      | rfl
      | (subst h; rfl)
  have hu := hr.units
  have hu1 := hu_of hr
  have nd := sc_signs_of_sets.nd
  refine ⟨_, (pss_one (ps_ret (kpe (t' := tSortedSet K _) (pe_sortedSet (by rfl) g.sorted (by rfl) g.set rfl (pe_lc (own := [("room", 1), ("sign", 2), ("to", 3)]) (by rfl) nd (kpi_seq (K := K) (pe_ix (kix_seq (K := K)) (pv 0) pe_int (fun _ _ => rfl))) (blkOk_by (own := [("room", 1), ("sign", 2), ("to", 3)]) (N := ["machine", "room", "sign", "to"]) (sc := defScope s_signs_of_sets) (by decide +kernel)) (fun _ _ _ _ _ => (kpg_tup (K := K) (n := 3) rfl (pgs_cons (pg_name (i := 1) nd rfl (by first | exact Or.inl rfl | exact Or.inr rfl)) (pgs_cons (pg_name (i := 2) nd rfl (by first | exact Or.inl rfl | exact Or.inr rfl)) (pgs_cons (pg_name (i := 3) nd rfl (by first | exact Or.inl rfl | exact Or.inr rfl)) pgs_nil))))) (fun _ _ _ _ _ => pts_nil) (fun _ _ _ _ _ => (pv 2))))))), fun H B ds hp => ?_⟩
  obtain ⟨m, hm, rfl⟩ := hp
  repeat walk_at "gm"
  refine ev_sortedS ?_
  refine ev_lcM (fun _ s => stD s) m.st (fun s => sg s.2.1) (by repeat walk_at "gm") (by repeat walk_at "gm") rfl ?_
  repeat walk_at "gm"
  have hl := hm.stL
  refine ⟨by rw [List.length_map]; omega, idx_map stD, rfl, ⟨m.st.map (·.2.1), by rw [List.map_map]; rfl, by rw [List.length_map]; omega, sig_len fun c hc => ?_, fun cs' hs hmem => ?_⟩, fun i x hx Ha => ?_⟩
  · obtain ⟨s, h1, rfl⟩ := List.mem_map.mp hc
    exact (hm.stN s h1).2.1
  · refine ⟨_, rfl, fun m' e => ?_⟩
    simp only [List.cons.injEq, and_true] at e
    rw [← Mach.d_inj e]
    have : cs' = m.sig := sorted_eqN hs m.sig_pw fun x => by rw [hmem, Mach.mem_sig hm, List.mem_map]
    rw [this]
    rfl
  · repeat walk_at "gm"
    exact ⟨rfl, rfl⟩
theorem ok_set_by (F : FnP K "set_by" "set_by" s_set_by [] f fd) (g : Bl mg) (c : Cn mg)  : FnOk P w K mg base CX0 1 f fd ["machine", "rooms", "sign"] (spR w T pr_set_by po_set_by) := by
  refine fnR F sc_set_by ?_ fun cdv A outer s H E hr => ?_
  · rintro ds h
    (repeat (obtain ⟨_, h⟩ := h))
    first
      | rfl
      | (subst h; rfl)
  have hu := hr.units
  have hu1 := hu_of hr
  have nd := sc_set_by.nd
  refine ⟨_, (pss_one (ps_ret (kpe (t' := tThen _ (kTup K)) (pe_tupleOf (by rfl) g.tuple (kpe (t' := tSortedSet K _) (pe_sortedSet (by rfl) g.sorted (by rfl) g.set rfl (pe_lc (own := [("room", 3), ("letter", 4), ("to", 5)]) (by rfl) nd (kpi_seq (K := K) (pe_ix (kix_seq (K := K)) (pv 0) pe_int (fun _ _ => rfl))) (blkOk_by (own := [("room", 3), ("letter", 4), ("to", 5)]) (N := ["machine", "rooms", "sign", "room", "letter", "to"]) (sc := defScope s_set_by) (by decide +kernel)) (fun _ _ _ _ _ => (kpg_tup (K := K) (n := 3) rfl (pgs_cons (pg_name (i := 3) nd rfl (by first | exact Or.inl rfl | exact Or.inr rfl)) (pgs_cons (pg_name (i := 4) nd rfl (by first | exact Or.inl rfl | exact Or.inr rfl)) (pgs_cons (pg_name (i := 5) nd rfl (by first | exact Or.inl rfl | exact Or.inr rfl)) pgs_nil))))) (fun _ _ _ _ _ => (pts_one (PW.pt (pw_and (pt_cmpR (kop_EQ (K := K) hu) (pv 4) (pv 2) (nomark _)) (pw_and1 (pt_cmpR (kop_in (K := K)) (pv 3) (pv 1) (by rfl))))))) (fun _ _ _ _ _ => (pv 5))))))))), fun H B ds hp => ?_⟩
  obtain ⟨m, rs, c, rd, hm, hrd, rfl⟩ := hp
  repeat walk_at "gm"
  refine ev_tupOf (ev_sortedI ?_)
  refine ev_lcP (fun _ s => stD s) m.st (fun s => s.2.1 == c && decide (s.1 ∈ rs)) (fun s => iD s.2.2) (by repeat walk_at "gm") (by repeat walk_at "gm") rfl ?_
  repeat walk_at "gm"
  have hl := hm.stL
  have hq : (m.st.filter fun s => s.2.1 == c && decide (s.1 ∈ rs)).length ≤ 200 := Nat.le_trans (List.length_filter_le _ _) hl
  refine ⟨by rw [List.length_map]; omega, idx_map stD, rfl, ⟨(m.st.filter fun s => s.2.1 == c && decide (s.1 ∈ rs)).map fun s => (s.2.2 : Int), by rw [List.map_map]; rfl, by rw [List.length_map]; omega, fun ms hn hms => ?_, fun ns' hs hmem => ?_⟩, fun i x hx Ha => ?_⟩
  · have := nodup_lenI (N := 12) hn fun x hx => by
      obtain ⟨s, h1, rfl⟩ := List.mem_map.mp (hms x hx)
      have := (hm.stN s (List.mem_filter.mp h1).1).2.2
      have := hm.n2
      omega
    omega
  · have e1 : ns' = (m.by rs c).map fun (n : Nat) => (n : Int) := sorted_eqI hs (pw_map (m.by_pw rs c)) fun x => by
      rw [hmem, List.mem_map, List.mem_map]
      constructor
      · rintro ⟨s, h1, rfl⟩
        obtain ⟨h2, h3⟩ := List.mem_filter.mp h1
        simp only [Bool.and_eq_true, beq_iff_eq, decide_eq_true_eq] at h3
        obtain ⟨rfl, h4⟩ := h3
        exact ⟨s.2.2, (Mach.mem_by hm).mpr ⟨s.1, h4, h2⟩, rfl⟩
      · rintro ⟨n, h1, rfl⟩
        obtain ⟨r, h2, h3⟩ := (Mach.mem_by hm).mp h1
        exact ⟨(r, c, n), List.mem_filter.mpr ⟨h3, by simp [h2]⟩, rfl⟩
    refine ⟨ns'.map D.int, rfl, _, rfl, fun m' rs' c' e => ?_⟩
    have e2 : m = m' ∧ rs = rs' ∧ c = c' := by
      rcases hrd with rfl | rfl <;> rcases e with e | e <;> simp only [List.cons.injEq, and_true] at e <;> obtain ⟨a1, a2, a3⟩ := e
      · exact ⟨Mach.d_inj a1, iTs_inj a2, sg_inj a3⟩
      · cases a2
      · cases a2
      · exact ⟨Mach.d_inj a1, iLs_inj a2, sg_inj a3⟩
    obtain ⟨rfl, rfl, rfl⟩ := e2
    rw [e1, List.map_map]
    rfl
  · repeat walk_at "gm"
    rw [eqS1]
    refine tk_b (fun hb => ?_) fun hb => ?_
    · repeat walk_at "gm"
      refine op_inLT rfl rfl hrd ⟨_, rfl, by rw [hb]; rfl, fun _ => ?_, fun _ => rfl⟩
      repeat walk_at "gm"
      exact ⟨rfl, rfl⟩
    · exact ⟨by rw [hb]; rfl, fun z => (by cases z), fun _ => rfl⟩
end
end Gm
namespace Gm
open PySem PySem.Spec PyProof.Rows L2
local macro_rules | `(tactic| walk_at "gm") => `(tactic| first
  | (with_reducible refine st_seq ?_)
  | ((with_reducible show Tg _ (gName _) _ _ _); refine tg_nameG rfl ?_)
  | ((with_reducible show Tg _ (gTup _ _ _) _ _ _); refine tg_tup (by rfl) ?_)
  | (with_reducible refine tgs_cons ?_)
  | (with_reducible refine tgs_nil ?_)
  | (with_reducible refine tgin_name (by decide))
  | (with_reducible refine tgin_tup ?_)
  | (with_reducible refine tgsin_cons ?_ ?_ ?_ ?_)
  | (with_reducible exact tgsin_nil)
  | (with_reducible exact tgm_name)
  | (with_reducible refine tgm_tup ?_)
  | (with_reducible refine tgsm_cons ?_ ?_)
  | (with_reducible exact tgsm_nil)
  | (with_reducible refine ev_neg ?_)
  | ((with_reducible show ∃ i, Rz.d (D.int _) = Rz.d (D.int i) ∧ _); refine ⟨_, rfl, ?_⟩)
  | (with_reducible refine it_enumG ?_)
  | (with_reducible refine it_rngG ?_)
  | (with_reducible refine st_if ?_)
  | (with_reducible refine st_ret ?_)
  | (with_reducible refine st_retN ?_)
  | (with_reducible refine st_drop ?_)
  | (with_reducible refine st_next ?_)
  | (with_reducible refine st_cont ?_)
  | (with_reducible refine et_B ?_)
  | (with_reducible refine et_test ?_)
  | (with_reducible refine et_not ?_)
  | (with_reducible refine et_and ?_)
  | (with_reducible refine et_or ?_)
  | (with_reducible refine ev_andV ?_)
  | (with_reducible refine ev_orV ?_)
  | (with_reducible refine ev_notV ?_)
  | (with_reducible refine ev_if ?_)
  | (with_reducible refine ev_chain ?_)
  | (with_reducible refine ev_op' ?_)
  | (with_reducible refine ev_tupG ?_)
  | (with_reducible refine ev_lstG ?_)
  | (with_reducible refine ev_callG rs_nil rfl rfl ?_)
  | (with_reducible refine ev_cb ?_)
  | (with_reducible refine ev_bm ?_)
  | (with_reducible refine ev_bm0 ?_)
  | (with_reducible refine ev_m1 ?_)
  | (with_reducible refine ev_slice ?_)
  | (with_reducible refine eo_none ?_)
  | (with_reducible refine eo_some ?_)
  | (with_reducible refine ea_cons' ?_)
  | (with_reducible refine ea_nil ?_)
  | ((with_reducible show Ev _ (tVar _) _ _); refine ev_var rfl rfl ?_)
  | (with_reducible refine ev_int ?_)
  | (with_reducible refine ev_str ?_)
  | (with_reducible refine ev_bl ?_)
  | (with_reducible refine ev_non ?_)
  | ((with_reducible show Ev _ (tC (V.ty _)) _ _); refine ev_cx ?_)
  | ((with_reducible show ∃ b, Rz.d (D.bl _) = Rz.d (D.bl b) ∧ _); refine ⟨_, rfl, ?_⟩)
  | ((with_reducible show ∃ ds, unDs _ = some ds ∧ _); refine ⟨_, rfl, ?_⟩)
  | ((with_reducible show List.length _ ≤ 100000 ∧ _); refine and_ble rfl ?_)
  | ((with_reducible show Cb _ (rIsi _) _ _ _); refine cb_isT rfl rfl rfl (by decide) ?_)
  | ((with_reducible show Cb _ (fun xs H Q => ∃ x n, xs = [x] ∧ LenV _ x H n ∧ Q (.int n) H) _ _ _); refine cb_lenG rfl rfl ?_)
  | ((with_reducible show Op2 _ (orR rEq _) _ _ _ _); first | refine op_eqI rfl rfl ?_ | refine op_eqS rfl rfl ?_)
  | ((with_reducible show Op2 _ (orR rNe _) _ _ _ _); first | refine op_neI rfl rfl ?_ | refine op_neB rfl rfl ?_)
  | ((with_reducible show Op2 _ (rI0 _) _ _ _ _); first | refine op_cmpI rfl rfl ?_ | refine op_subI rfl rfl ?_)
  | ((with_reducible show Op2 _ (orR (rI0 _) _) _ _ _ _); refine op_addI rfl rfl ?_)
  | ((with_reducible show Op2 _ (fun x y H Q => y = V.non ∧ _) _ _ _ _); first | refine op_is rfl rfl ?_ | refine op_isnot rfl rfl ?_)
  | ((with_reducible show Op2 _ (fun x y H Q => ∃ (c : Nat) (z : Str), x = V.str ⟨#[c]⟩ ∧ _) _ _ _ _); refine op_inSign rfl rfl ?_)
  | ((with_reducible show Op2 _ (rIx _) _ _ _ _); refine op_ix rfl rfl rfl (fun _ z => by cases z) ?_)
  | (with_reducible refine ev_newN rfl ?_)
  | (with_reducible refine ev_newI ?_)
  | ((with_reducible show Cb _ (fun xs H Q => (∃ i, xs = [V.int i] ∧ _) ∨ _) _ _ _); refine cb_intB rfl ?_)
  | ((with_reducible show Op2 _ (rIn _ _) _ _ _ _); refine op_inL rfl rfl ?_)
  | (with_reducible refine it_listG ?_)
  | (with_reducible refine et_yes ?_)
  | ((with_reducible show ∃ ds, unD _ = some (D.lst ds) ∧ _); refine ⟨_, rfl, ?_⟩)
  | ((with_reducible show ∃ ds, unDs _ = some [D.lst ds] ∧ _); refine ⟨_, rfl, ?_⟩)
  | ((with_reducible show ∃ n, unDs _ = some [iD n] ∧ _); refine ⟨_, rfl, ?_⟩)
  | ((with_reducible show (∃ d, vw _ _ = some d ∧ tyD _ d) ∧ _); refine ⟨⟨_, rfl, rfl⟩, ?_⟩)
  | ((with_reducible show Mt _ rAppend (Rz.o _) [Rz.d _] _ _); refine mt_app rfl ?_ ?_)
  | (with_reducible refine it_enumS ?_)
  | ((with_reducible show ∃ s, unDs _ = some [D.str s] ∧ _); refine ⟨_, rfl, ?_⟩))
abbrev s_sets_of : Stmt := topS 29
theorem sc_sets_of : FnScope ["machine", "most", "row", "numbers", "found", "rooms", "nexts", "sign", "there"] ["machine", "most"] (defScope s_sets_of) := ⟨rfl, rfl, rfl, by decide +kernel, rfl, by decide +kernel, by decide +kernel⟩
abbrev pr_sets_of (ds : List D) : Prop := ∃ (m : Mach) (U : List (List Nat)), m.Ok ∧ m.fs ∈ U ∧ m.Closed U ∧ U.length ≤ 400 ∧ ds = [m.d, .int 400]
abbrev po_sets_of (ds : List D) (d : D) : Prop := ∀ (m : Mach), ds = [m.d, .int 400] → ∃ row, m.Row row ∧ d = .lst (row.map (m.tell row))
abbrev K_sets_of (P : Program) (w : World) (K : PySem.W.Frag) (mg : Str → Option Value) (base : Heap) (T : List NdefX.NTab) : Prop := KnR P w K mg base T "sets_of" 7 [.int 400] pr_sets_of po_sets_of
section
variable {P : Program} {w : World} {K : PySem.W.Frag} {mg : Str → Option Value} {base : Heap} {T : List NdefX.NTab} {f : Addr} {fd : FuncData}
theorem ok_sets_of (F : FnP K "sets_of" "sets_of" s_sets_of [.int 400] f fd) (g : Bl mg) (c : Cn mg) (h_look_at : K_look_at P w K mg base T) (h_look_at_most : K_look_at_most P w K mg base T) (h_signs_of_sets : K_signs_of_sets P w K mg base T) (h_set_by : K_set_by P w K mg base T) (h_rooms_text : K_rooms_text P w K mg base T) : FnOk P w K mg base CX0 7 f fd ["machine", "most"] (spR w T pr_sets_of po_sets_of) := by
  refine fnR F sc_sets_of ?_ fun cdv A outer s H E hr => ?_
  · rintro ds h
    (repeat (obtain ⟨_, h⟩ := h))
    first
      | rfl
      | (subst h; rfl)
  have hu := hr.units
  have hu1 := hu_of hr
  have nd := sc_sets_of.nd
  refine ⟨_, (pss_cons (ps_expr (pe_kn h_look_at (hr.mono (by decide)) (by rfl) (pa_cons (pv 0) pa_nil)))
  (pss_cons (ps_expr (pe_kn h_look_at_most (hr.mono (by decide)) (by rfl) (pa_cons (pv 1) (pa_cons (pe_kc (by rfl) c.MOST_SETS) pa_nil))))
  (pss_cons (ps_set (i := 2) nd rfl (by first | exact Or.inl rfl | exact Or.inr rfl) (pe_lst (pa_cons (kpe (t' := tThen _ (kTup K)) (pe_tupleOf (by rfl) g.tuple (pe_ix (kix_seq (K := K)) (pv 0) pe_int (fun _ _ => rfl)))) pa_nil)))
  (pss_cons (ps_set (i := 3) nd rfl (by first | exact Or.inl rfl | exact Or.inr rfl) (pe_dispN hu (pe_ix (kix_seq (K := K)) (pv 2) pe_int (fun _ _ => rfl)) pe_int))
  (pss_cons (ps_set (i := 4) nd rfl (by first | exact Or.inl rfl | exact Or.inr rfl) (pe_lst pa_nil))
  (pss_cons (ps_while PassesOwn.never (pt_cmpR op_lt (pe_callB (kcall_len (K := K)) (by rfl) g.len boot_len (pa_cons (pv 4) pa_nil)) (pe_callB (kcall_len (K := K)) (by rfl) g.len boot_len (pa_cons (pv 2) pa_nil)) (nomark _)) (pss_cons (ps_set (i := 5) nd rfl (by first | exact Or.inl rfl | exact Or.inr rfl) (pe_ix (kix_seq (K := K)) (pv 2) (pe_callB (kcall_len (K := K)) (by rfl) g.len boot_len (pa_cons (pv 4) pa_nil)) (fun _ _ => rfl)))
  (pss_cons (ps_set (i := 6) nd rfl (by first | exact Or.inl rfl | exact Or.inr rfl) (pe_lst pa_nil))
  (pss_cons (ps_for PassesOwn.never rfl (kpi_seq (K := K) (pe_kn h_signs_of_sets (hr.mono (by decide)) (by rfl) (pa_cons (pv 0) pa_nil))) (pg_name (i := 7) nd rfl (by first | exact Or.inl rfl | exact Or.inr rfl)) (pss_cons (ps_set (i := 8) nd rfl (by first | exact Or.inl rfl | exact Or.inr rfl) (pe_kn h_set_by (hr.mono (by decide)) (by rfl) (pa_cons (pv 0) (pa_cons (pv 5) (pa_cons (pv 7) pa_nil)))))
  (pss_cons (ps_if (pt_cmpR (kop_notInDN (w := w) hu) (pv 8) (pv 3) (by rfl)) (pss_cons (ps_if (pt_cmpR (kop_EQ (K := K) hu) (pe_callB (kcall_len (K := K)) (by rfl) g.len boot_len (pa_cons (pv 2) pa_nil)) (pv 1) (nomark _)) (pss_one ps_never) pss_nil)
  (pss_cons (ps_asg (pe_callB (kcall_len (K := K)) (by rfl) g.len boot_len (pa_cons (pv 2) pa_nil)) (pg_sub (pv 3) (pv 8) (kset_dN (w := w) hu)))
  (pss_one (ps_expr (pe_bm PySem.F.plainAttrs_list PySem.F.slot_list_append PySem.F.type_list_append mt_append (pv 2) (pa_cons (pv 8) pa_nil)))))) pss_nil)
  (pss_one (ps_expr (pe_bm PySem.F.plainAttrs_list PySem.F.slot_list_append PySem.F.type_list_append mt_append (pv 6) (pa_cons (pe_tup (pa_cons (pv 7) (pa_cons (pe_ix (kix_dN (w := w) hu) (pv 3) (pv 8) (fun _ _ => rfl)) pa_nil))) pa_nil)))))))
  (pss_one (ps_expr (pe_bm PySem.F.plainAttrs_list PySem.F.slot_list_append PySem.F.type_list_append mt_append (pv 4) (pa_cons (pe_tup (pa_cons (pe_kn h_rooms_text (hr.mono (by decide)) (by rfl) (pa_cons (pv 0) (pa_cons (pe_callTy (kcall_list_of (K := K)) (by rfl) g.list boot_list (pa_cons (pv 5) pa_nil)) pa_nil))) (pa_cons (pv 6) pa_nil))) pa_nil))))))))
  (pss_one (ps_ret (pv 4))))))))), fun H B ds hp => ?_⟩
  obtain ⟨m, U, hm, hf, hU, hl, rfl⟩ := hp
  repeat walk_at "gm"
  refine ⟨⟨m, hm, rfl⟩, fun d e => ?_⟩
  clear e d
  repeat walk_at "gm"
  refine ⟨⟨_, _, by decide, by decide, rfl⟩, fun d e => ?_⟩
  clear e d
  repeat walk_at "gm"
  refine st_asg ?_
  repeat walk_at "gm"
  refine ev_tupOf ?_
  repeat walk_at "gm"
  refine ⟨_, rfl, ?_⟩
  repeat walk_at "gm"
  refine st_asg ?_
  refine ev_dispN rfl fun Ha => ?_
  repeat walk_at "gm"
  refine ⟨_, rfl, keyOk_iTs m.fs, ?_⟩
  repeat walk_at "gm"
  refine ⟨_, rfl, ?_⟩
  repeat walk_at "gm"
  refine st_asg ?_
  repeat walk_at "gm"
  refine st_while (fun k Γ => ∃ (row : List (List Nat)) (n : Nat) (a b c dd : Kd), a.isOb = false ∧ b.isOb = false ∧ Γ = [.dat m.d, .dat (.int 400), .ob true (.lst (row.map iTs)), .ob true (.dN (numD row)), .ob true (.lst ((row.take n).map (m.tell row))), a, b, c, dd] ∧
    k = 400 - n ∧ n ≤ row.length ∧ row[0]? = some m.fs ∧ row.Nodup ∧ (∀ S ∈ row, S ∈ U) ∧ (∀ S ∈ row, m.Rc S) ∧ ∀ S ∈ row.take n, ∀ c ∈ m.sig, m.by S c ∈ row) 400 ?_ ?_
  · exact ⟨[m.fs], 0, _, _, _, _, rfl, rfl, rfl, rfl, by simp, rfl, by simp, by simp [hf], by
      intro S hS U hU _
      rw [List.mem_singleton] at hS
      subst hS
      exact hU, by simp⟩
  rintro k Γ ⟨row, n, a, b, c, dd, ha, hb, rfl, rfl, hn, r0, rN, rU, rR, rC⟩
  have rl : row.length ≤ 400 := Nat.le_trans (nodup_sub (β := Nat) row U rN rU) hl
  repeat walk_at "gm"
  refine ⟨by rw [List.length_map, List.length_take]; omega, ?_⟩
  repeat walk_at "gm"
  refine ⟨by rw [List.length_map]; omega, ?_⟩
  repeat walk_at "gm"
  have e1 : ((row.take n).map (m.tell row)).length = n := by rw [List.length_map, List.length_take]; omega
  simp only [e1, List.length_map]
  refine tk_b (fun hlt => ?_) fun hge => ?_
  · have hlt : n < row.length := by have := of_decide_eq_true hlt; omega
    obtain ⟨S, hS⟩ : ∃ S, row[n]? = some S := ⟨row[n], List.getElem?_eq_getElem hlt⟩
    have hSm : S ∈ row := List.mem_of_getElem? hS
    repeat walk_at "gm"
    refine st_asg ?_
    repeat walk_at "gm"
    refine ⟨by rw [List.length_map, List.length_take]; omega, ?_⟩
    simp only [e1]
    refine op_ix rfl rfl (itD_map hS) (fun _ z => by cases z) ?_
    repeat walk_at "gm"
    refine st_asg ?_
    repeat walk_at "gm"
    refine st_forG (fun _ c => sg c) m.sig (fun q Γ => ∃ (ext : List (List Nat)) (x y : Kd), Γ = [.dat m.d, .dat (.int 400), .ob true (.lst ((row ++ ext).map iTs)), .ob true (.dN (numD (row ++ ext))), .ob true (.lst ((row.take n).map (m.tell row))), .dat (iTs S), .ob true (.lst (q.map fun c => .tup [sg c, iD (numOf (row ++ ext) (m.by S c))])), x, y] ∧
      (row ++ ext).Nodup ∧ (∀ T ∈ row ++ ext, T ∈ U) ∧ (∀ T ∈ row ++ ext, m.Rc T) ∧ ∀ c ∈ q, m.by S c ∈ row ++ ext) ?_
    refine it_listG ?_
    repeat walk_at "gm"
    refine ⟨⟨m, hm, rfl⟩, fun d e => ?_⟩
    rw [e m rfl]
    refine ⟨_, rfl, idx_map sg, ⟨[], c, _, by rw [List.append_nil]; rfl, by simpa using rN, by simpa using rU, by simpa using rR, by simp⟩, fun q x r es Γ ⟨ext, y, z, hΓ, iN, iU, iR, iC⟩ => ?_, fun Γ ⟨ext, y, z, hΓ, iN, iU, iR, iC⟩ => ?_⟩
    · subst hΓ
      have hx : x ∈ m.sig := by rw [es]; simp
      have hSU := hU S (rU S hSm) x hx
      have hrc : m.Rc (m.by S x) := fun V h1 h2 => h2 S (rR S hSm V h1 h2) x hx
      have rl2 : (row ++ ext).length ≤ 400 := Nat.le_trans (nodup_sub (β := Nat) _ U iN iU) hl
      repeat walk_at "gm"
      refine st_asg ?_
      repeat walk_at "gm"
      refine ⟨⟨m, S, x, _, hm, .inl rfl, rfl⟩, fun d e => ?_⟩
      rw [e m S x (.inl rfl)]
      repeat walk_at "gm"
      refine op_inN rfl (keyOk_iTs _) rfl rfl ⟨_, rfl, ?_⟩
      by_cases hin : m.by S x ∈ row ++ ext
      · rw [atN_old iN hin]
        refine tk_f rfl ?_
        repeat walk_at "gm"
        refine op_ixN rfl (keyOk_iTs _) rfl rfl (atN_old iN hin) ?_
        repeat walk_at "gm"
        · rw [List.length_map]
          have := List.length_filter_le (fun c => m.st.any fun s => s.2.1 == c) (List.range' 97 26)
          rw [List.length_range'] at this
          have h2 : m.sig.length = q.length + (r.length + 1) := by rw [es]; simp
          have h3 : m.sig.length ≤ 26 := this
          omega
        · refine ⟨ext, _, _, by rw [List.map_append (l₁ := q)]; rfl, iN, iU, iR, fun c hc => ?_⟩
          rcases List.mem_append.mp hc with h | h
          · exact iC c h
          · rw [List.mem_singleton] at h; subst h; exact hin
      · rw [atN_new hin]
        refine tk_t rfl ?_
        have iN2 : (row ++ (ext ++ [m.by S x])).Nodup := by
          rw [← List.append_assoc]
          exact List.nodup_append.mpr ⟨iN, List.pairwise_singleton _ _, fun a ha b hb => by
            rw [List.mem_singleton] at hb
            subst hb
            exact fun z => hin (z ▸ ha)⟩
        have mem2 : ∀ T ∈ row ++ (ext ++ [m.by S x]), T ∈ row ++ ext ∨ T = m.by S x := fun T hT => by
          rw [← List.append_assoc] at hT
          rcases List.mem_append.mp hT with h | h
          · exact .inl h
          · exact .inr (List.mem_singleton.mp h)
        have iU2 : ∀ T ∈ row ++ (ext ++ [m.by S x]), T ∈ U := fun T hT => (mem2 T hT).elim (iU T) fun h => by rw [h]; exact hSU
        have rl3 : (row ++ ext).length + 1 ≤ 400 := by
          have := Nat.le_trans (nodup_sub (β := Nat) _ U iN2 iU2) hl
          simp only [List.length_append, List.length_singleton] at this ⊢
          omega
        repeat walk_at "gm"
        refine ⟨by rw [List.length_map]; omega, ?_⟩
        repeat walk_at "gm"
        refine tk_f (decide_eq_false (by rw [List.length_map]; omega)) ?_
        repeat walk_at "gm"
        refine st_putN rfl ?_
        repeat walk_at "gm"
        refine ⟨by rw [List.length_map]; omega, _, rfl, ⟨_, _, rfl⟩, ?_⟩
        repeat walk_at "gm"
        refine ⟨_, _, _, rfl, keyOk_iTs _, rfl, by rw [numD_len]; omega, ?_⟩
        rw [numD_put hin]
        repeat walk_at "gm"
        · rw [List.length_map]; omega
        repeat walk_at "gm"
        have e5 : (row ++ ext).map iTs ++ [iTs (m.by S x)] = (row ++ (ext ++ [m.by S x])).map iTs := by rw [← List.append_assoc, List.map_append (l₁ := row ++ ext)]; rfl
        have e6 : row ++ ext ++ [m.by S x] = row ++ (ext ++ [m.by S x]) := List.append_assoc ..
        have hin2 : m.by S x ∈ row ++ (ext ++ [m.by S x]) := by simp
        rw [e6] 
        refine op_ixN rfl (keyOk_iTs _) rfl rfl (atN_old iN2 hin2) ?_
        repeat walk_at "gm"
        · rw [List.length_map]
          have := List.length_filter_le (fun c => m.st.any fun s => s.2.1 == c) (List.range' 97 26)
          rw [List.length_range'] at this
          have h2 : m.sig.length = q.length + (r.length + 1) := by rw [es]; simp
          have h3 : m.sig.length ≤ 26 := this
          omega
        · have e7 : (q.map fun c => D.tup [sg c, iD (numOf (row ++ ext) (m.by S c))]) = q.map fun c => D.tup [sg c, iD (numOf (row ++ (ext ++ [m.by S x])) (m.by S c))] :=
            List.map_congr_left fun c hc => by rw [← e6, numOf_app (iC c hc)]
          refine ⟨ext ++ [m.by S x], _, _, by rw [List.map_append (l₁ := q), ← e7, ← e5]; rfl, iN2, iU2, fun T hT => (mem2 T hT).elim (iR T) fun h => by rw [h]; exact hrc, fun c hc => ?_⟩
          rcases List.mem_append.mp hc with h | h
          · rw [← e6]; exact List.mem_append_left _ (iC c h)
          · rw [List.mem_singleton] at h; subst h; exact hin2
    · subst hΓ
      have hSn : ∀ r ∈ S, r < m.n := hm.rc_lt (rR S hSm)
      refine st_freeze 6 rfl ?_
      repeat walk_at "gm"
      refine cb_listOf (.inr rfl) ?_
      repeat walk_at "gm"
      refine ⟨⟨m, S, hm, hSn, rfl⟩, fun d e => ?_⟩
      rw [e m S rfl]
      repeat walk_at "gm"
      · rw [List.length_map, List.length_take]; omega
      have hS2 : (row ++ ext)[n]? = some S := by rw [List.getElem?_append_left hlt]; exact hS
      have et : (row ++ ext).take (n + 1) = row.take n ++ [S] := by
        rw [List.take_add_one, hS2, List.take_append_of_le_length hn]
        rfl
      have ef : (row.take n).map (m.tell row) = (row.take n).map (m.tell (row ++ ext)) := List.map_congr_left fun T hT => (tell_app (rC T hT) ext).symm
      refine ⟨400 - (n + 1), by omega, row ++ ext, n + 1, .dat (iTs S), .dat (.lst (m.sig.map fun c => .tup [sg c, iD (numOf (row ++ ext) (m.by S c))])), y, z, rfl, rfl, ?_, rfl, by rw [List.length_append]; omega, ?_, iN, iU, iR, fun T hT c hc => ?_⟩
      · rw [et, List.map_append (l₁ := row.take n), ← ef]
        rfl
      · rw [List.getElem?_append_left (by omega)]
        exact r0
      · rw [et] at hT
        rcases List.mem_append.mp hT with h | h
        · exact List.mem_append_left _ (rC T h c hc)
        · rw [List.mem_singleton] at h; subst h; exact iC c hc
  · have hge : n = row.length := by have := of_decide_eq_false hge; omega
    subst hge
    rw [List.take_length] at rC ⊢
    refine st_freeze 4 rfl ?_
    repeat walk_at "gm"
    refine ⟨_, rfl, fun m' e => ?_⟩
    simp only [List.cons.injEq, and_true] at e
    have := Mach.d_inj e
    subst this
    exact ⟨row, ⟨r0, rN, rC, rR⟩, rfl⟩
end
end Gm
namespace Gm
open PySem PySem.Spec PyProof.Rows L2
local macro_rules | `(tactic| walk_at "gm") => `(tactic| first
  | (with_reducible refine st_seq ?_)
  | ((with_reducible show Tg _ (gName _) _ _ _); refine tg_nameG rfl ?_)
  | ((with_reducible show Tg _ (gTup _ _ _) _ _ _); refine tg_tup (by rfl) ?_)
  | (with_reducible refine tgs_cons ?_)
  | (with_reducible refine tgs_nil ?_)
  | (with_reducible refine tgin_name (by decide))
  | (with_reducible refine tgin_tup ?_)
  | (with_reducible refine tgsin_cons ?_ ?_ ?_ ?_)
  | (with_reducible exact tgsin_nil)
  | (with_reducible exact tgm_name)
  | (with_reducible refine tgm_tup ?_)
  | (with_reducible refine tgsm_cons ?_ ?_)
  | (with_reducible exact tgsm_nil)
  | (with_reducible refine ev_neg ?_)
  | ((with_reducible show ∃ i, Rz.d (D.int _) = Rz.d (D.int i) ∧ _); refine ⟨_, rfl, ?_⟩)
  | (with_reducible refine it_enumG ?_)
  | (with_reducible refine it_rngG ?_)
  | (with_reducible refine st_if ?_)
  | (with_reducible refine st_ret ?_)
  | (with_reducible refine st_retN ?_)
  | (with_reducible refine st_drop ?_)
  | (with_reducible refine st_next ?_)
  | (with_reducible refine st_cont ?_)
  | (with_reducible refine et_B ?_)
  | (with_reducible refine et_test ?_)
  | (with_reducible refine et_not ?_)
  | (with_reducible refine et_and ?_)
  | (with_reducible refine et_or ?_)
  | (with_reducible refine ev_andV ?_)
  | (with_reducible refine ev_orV ?_)
  | (with_reducible refine ev_notV ?_)
  | (with_reducible refine ev_if ?_)
  | (with_reducible refine ev_chain ?_)
  | (with_reducible refine ev_op' ?_)
  | (with_reducible refine ev_tupG ?_)
  | (with_reducible refine ev_lstG ?_)
  | (with_reducible refine ev_callG rs_nil rfl rfl ?_)
  | (with_reducible refine ev_cb ?_)
  | (with_reducible refine ev_bm ?_)
  | (with_reducible refine ev_bm0 ?_)
  | (with_reducible refine ev_m1 ?_)
  | (with_reducible refine ev_slice ?_)
  | (with_reducible refine eo_none ?_)
  | (with_reducible refine eo_some ?_)
  | (with_reducible refine ea_cons' ?_)
  | (with_reducible refine ea_nil ?_)
  | ((with_reducible show Ev _ (tVar _) _ _); refine ev_var rfl rfl ?_)
  | (with_reducible refine ev_int ?_)
  | (with_reducible refine ev_str ?_)
  | (with_reducible refine ev_bl ?_)
  | (with_reducible refine ev_non ?_)
  | ((with_reducible show Ev _ (tC (V.ty _)) _ _); refine ev_cx ?_)
  | ((with_reducible show ∃ b, Rz.d (D.bl _) = Rz.d (D.bl b) ∧ _); refine ⟨_, rfl, ?_⟩)
  | ((with_reducible show ∃ ds, unDs _ = some ds ∧ _); refine ⟨_, rfl, ?_⟩)
  | ((with_reducible show List.length _ ≤ 100000 ∧ _); refine and_ble rfl ?_)
  | ((with_reducible show Cb _ (rIsi _) _ _ _); refine cb_isT rfl rfl rfl (by decide) ?_)
  | ((with_reducible show Cb _ (fun xs H Q => ∃ x n, xs = [x] ∧ LenV _ x H n ∧ Q (.int n) H) _ _ _); refine cb_lenG rfl rfl ?_)
  | ((with_reducible show Op2 _ (orR rEq _) _ _ _ _); first | refine op_eqI rfl rfl ?_ | refine op_eqS rfl rfl ?_)
  | ((with_reducible show Op2 _ (orR rNe _) _ _ _ _); first | refine op_neI rfl rfl ?_ | refine op_neB rfl rfl ?_)
  | ((with_reducible show Op2 _ (rI0 _) _ _ _ _); first | refine op_cmpI rfl rfl ?_ | refine op_subI rfl rfl ?_)
  | ((with_reducible show Op2 _ (orR (rI0 _) _) _ _ _ _); refine op_addI rfl rfl ?_)
  | ((with_reducible show Op2 _ (fun x y H Q => y = V.non ∧ _) _ _ _ _); first | refine op_is rfl rfl ?_ | refine op_isnot rfl rfl ?_)
  | ((with_reducible show Op2 _ (fun x y H Q => ∃ (c : Nat) (z : Str), x = V.str ⟨#[c]⟩ ∧ _) _ _ _ _); refine op_inSign rfl rfl ?_)
  | ((with_reducible show Op2 _ (rIx _) _ _ _ _); refine op_ix rfl rfl rfl (fun _ z => by cases z) ?_)
  | (with_reducible refine ev_newN rfl ?_)
  | (with_reducible refine ev_newI ?_)
  | ((with_reducible show Cb _ (fun xs H Q => (∃ i, xs = [V.int i] ∧ _) ∨ _) _ _ _); refine cb_intB rfl ?_)
  | ((with_reducible show Op2 _ (rIn _ _) _ _ _ _); refine op_inL rfl rfl ?_)
  | (with_reducible refine it_listG ?_)
  | (with_reducible refine et_yes ?_)
  | ((with_reducible show ∃ ds, unD _ = some (D.lst ds) ∧ _); refine ⟨_, rfl, ?_⟩)
  | ((with_reducible show ∃ ds, unDs _ = some [D.lst ds] ∧ _); refine ⟨_, rfl, ?_⟩)
  | ((with_reducible show ∃ n, unDs _ = some [iD n] ∧ _); refine ⟨_, rfl, ?_⟩)
  | ((with_reducible show (∃ d, vw _ _ = some d ∧ tyD _ d) ∧ _); refine ⟨⟨_, rfl, rfl⟩, ?_⟩)
  | ((with_reducible show Mt _ rAppend (Rz.o _) [Rz.d _] _ _); refine mt_app rfl ?_ ?_)
  | (with_reducible refine it_enumS ?_)
  | ((with_reducible show ∃ s, unDs _ = some [D.str s] ∧ _); refine ⟨_, rfl, ?_⟩))
abbrev s_come_to : Stmt := topS 31
theorem sc_come_to : FnScope ["steps", "rooms", "found", "waiting", "room", "here", "to"] ["steps", "rooms"] (defScope s_come_to) := ⟨rfl, rfl, rfl, by decide +kernel, rfl, by decide +kernel, by decide +kernel⟩
abbrev s_useful : Stmt := topS 32
theorem sc_useful : FnScope ["machine", "ahead", "behind", "room", "sign", "to"] ["machine"] (defScope s_useful) := ⟨rfl, rfl, rfl, by decide +kernel, rfl, by decide +kernel, by decide +kernel⟩
abbrev s_trimmed : Stmt := topS 33
theorem sc_trimmed : FnScope ["machine", "rooms", "firsts", "lasts", "room", "step"] ["machine"] (defScope s_trimmed) := ⟨rfl, rfl, rfl, by decide +kernel, rfl, by decide +kernel, by decide +kernel⟩
abbrev pr_come_to (ds : List D) : Prop := ∃ (E : List (Nat × Nat)) (rs : List Nat), E.length ≤ 200 ∧ rs.length ≤ 12 ∧ (∀ e ∈ E, e.2 < 12) ∧ (∀ r ∈ rs, r < 12) ∧ ds = [.lst (E.map edD), iLs rs]
abbrev po_come_to (ds : List D) (d : D) : Prop := ∀ (E : List (Nat × Nat)) (rs : List Nat), ds = [.lst (E.map edD), iLs rs] → ∃ ks : List Nat, d = .dI (keysD ks) ∧ ∀ x, x ∈ ks ↔ Rch E rs x
abbrev K_come_to (P : Program) (w : World) (K : PySem.W.Frag) (mg : Str → Option Value) (base : Heap) (T : List NdefX.NTab) : Prop := KnR P w K mg base T "come_to" 1 [] pr_come_to po_come_to
abbrev pr_useful (ds : List D) : Prop := ∃ m : Mach, m.Ok ∧ ds = [m.d]
abbrev po_useful (ds : List D) (d : D) : Prop := ∀ m : Mach, ds = [m.d] → d = iLs m.use
abbrev K_useful (P : Program) (w : World) (K : PySem.W.Frag) (mg : Str → Option Value) (base : Heap) (T : List NdefX.NTab) : Prop := KnR P w K mg base T "useful" 6 [] pr_useful po_useful
abbrev pr_trimmed (ds : List D) : Prop := ∃ m : Mach, m.Ok ∧ ds = [m.d]
abbrev po_trimmed (ds : List D) (d : D) : Prop := ∀ m : Mach, ds = [m.d] → d = m.trim.d
abbrev K_trimmed (P : Program) (w : World) (K : PySem.W.Frag) (mg : Str → Option Value) (base : Heap) (T : List NdefX.NTab) : Prop := KnR P w K mg base T "trimmed" 7 [] pr_trimmed po_trimmed
section
variable {P : Program} {w : World} {K : PySem.W.Frag} {mg : Str → Option Value} {base : Heap} {T : List NdefX.NTab} {f : Addr} {fd : FuncData}
theorem ok_come_to (F : FnP K "come_to" "come_to" s_come_to [] f fd) (g : Bl mg) (c : Cn mg)  : FnOk P w K mg base CX0 1 f fd ["steps", "rooms"] (spR w T pr_come_to po_come_to) := by
  refine fnR F sc_come_to ?_ fun cdv A outer s H E hr => ?_
  · rintro ds h
    (repeat (obtain ⟨_, h⟩ := h))
    first
      | rfl
      | (subst h; rfl)
  have hu := hr.units
  have hu1 := hu_of hr
  have nd := sc_come_to.nd
  refine ⟨_, (pss_cons (ps_set (i := 2) nd rfl (by first | exact Or.inl rfl | exact Or.inr rfl) pe_dnewK)
  (pss_cons (ps_set (i := 3) nd rfl (by first | exact Or.inl rfl | exact Or.inr rfl) (pe_callTy (kcall_list_of (K := K)) (by rfl) g.list boot_list (pa_cons (pv 1) pa_nil)))
  (pss_cons (ps_while PassesOwn.never (pt_cmpR (kop_NE (K := K) hu) (pv 3) (pe_lst pa_nil) (nomark _)) (pss_cons (ps_set (i := 4) nd rfl (by first | exact Or.inl rfl | exact Or.inr rfl) (pe_bm0 PySem.F.plainAttrs_list PySem.F.slot_list_pop PySem.F.type_list_pop mt_pop (pv 3)))
  (pss_one (ps_if (pt_cmpR (op_notInDI hu) (pv 4) (pv 2) (by rfl)) (pss_cons (ps_dput hu1 (pv 2) (pv 4) pe_bl rfl)
  (pss_one (ps_expr (pe_bm PySem.F.plainAttrs_list PySem.F.slot_list_extend PySem.F.type_list_extend mt_extend (pv 3) (pa_cons (pe_lc (own := [("here", 5), ("to", 6)]) (by rfl) nd (kpi_seq (K := K) (pv 0)) (blkOk_by (own := [("here", 5), ("to", 6)]) (N := ["steps", "rooms", "found", "waiting", "room", "here", "to"]) (sc := defScope s_come_to) (by decide +kernel)) (fun _ _ _ _ _ => (kpg_tup (K := K) (n := 2) rfl (pgs_cons (pg_name (i := 5) nd rfl (by first | exact Or.inl rfl | exact Or.inr rfl)) (pgs_cons (pg_name (i := 6) nd rfl (by first | exact Or.inl rfl | exact Or.inr rfl)) pgs_nil)))) (fun _ _ _ _ _ => (pts_one (pt_cmpR (kop_EQ (K := K) hu) (pv 5) (pv 4) (nomark _)))) (fun _ _ _ _ _ => (pv 6))) pa_nil))))) pss_nil))))
  (pss_one (ps_ret (pv 2)))))), fun H B ds hp => ?_⟩
  obtain ⟨es, rs, hE, hrs, hE2, hr, rfl⟩ := hp
  repeat walk_at "gm"
  refine st_asg ?_
  repeat walk_at "gm"
  refine st_asg ?_
  repeat walk_at "gm"
  refine cb_listOf (.inl rfl) ?_
  repeat walk_at "gm"
  refine st_while (fun k Γ => ∃ (ks wt : List Nat) (a b c : Kd), a.isOb = false ∧ b.isOb = false ∧ c.isOb = false ∧ Γ = [.dat (.lst (es.map edD)), .dat (iLs rs), .ob true (.dI (keysD ks)), .ob true (iLs wt), a, b, c] ∧
    k = (12 - ks.length) * (es.length + 1) + wt.length ∧ ks.Nodup ∧ (∀ x ∈ ks, x < 12) ∧ (∀ x ∈ wt, x < 12) ∧ (∀ x ∈ ks, Rch es rs x) ∧ (∀ x ∈ wt, Rch es rs x) ∧ (∀ r ∈ rs, r ∈ ks ∨ r ∈ wt) ∧ (∀ e ∈ es, e.1 ∈ ks → e.2 ∈ ks ∨ e.2 ∈ wt) ∧ wt.length ≤ 12 + ks.length * 200) (12 * (es.length + 1) + rs.length) ?_ ?_
  · exact ⟨[], rs, _, _, _, rfl, rfl, rfl, rfl, by simp, List.nodup_nil, by simp, hr, by simp, fun x hx U h1 _ => h1 x hx, fun r h => .inr h, by simp, by omega⟩
  rintro k Γ ⟨ks, wt, a, b, c, ha, hb, hc, rfl, rfl, kN, kL, wL, kR, wR, cR, cE, wl⟩
  have kl : ks.length ≤ 12 := nodup_len 12 ks kN kL
  repeat walk_at "gm"
  refine op_neP rfl rfl (sh_iLs wt) sh_nil ?_
  rw [eqD_iLs]
  refine ⟨_, rfl, ?_⟩
  refine tk_b (fun hne => ?_) fun he => ?_
  · obtain ⟨wt, x, rfl⟩ := snoc_of (l := wt) (fun z => by subst z; cases hne)
    rw [iLs_snoc]
    have xL := wL x (by simp)
    have xR := wR x (by simp)
    rw [List.length_append, List.length_singleton] at wl
    repeat walk_at "gm"
    refine st_asg ?_
    repeat walk_at "gm"
    refine mt_popL rfl ?_
    repeat walk_at "gm"
    refine op_inI' rfl rfl ⟨_, rfl, ?_⟩
    rw [gI_keys]
    by_cases hx : x ∈ ks
    · rw [decide_eq_true hx]
      refine tk_f rfl ?_
      repeat walk_at "gm"
      refine ⟨(12 - ks.length) * (es.length + 1) + wt.length, by simp, ks, wt, .dat (iD x), b, c, rfl, hb, hc, rfl, rfl, kN, kL, fun y hy => wL y (by simp [hy]), kR, fun y hy => wR y (by simp [hy]), fun r h => ?_, fun e h1 h2 => ?_, by omega⟩
      · rcases cR r h with h | h
        · exact .inl h
        · rcases List.mem_append.mp h with h | h
          · exact .inr h
          · rw [List.mem_singleton] at h; subst h; exact .inl hx
      · rcases cE e h1 h2 with h | h
        · exact .inl h
        · rcases List.mem_append.mp h with h | h
          · exact .inr h
          · rw [List.mem_singleton] at h; rw [h]; exact .inl hx
    · rw [decide_eq_false hx]
      refine tk_t rfl ?_
      have kN2 : (ks ++ [x]).Nodup := List.nodup_append.mpr ⟨kN, List.pairwise_singleton _ _, fun a ha b hb => by
        rw [List.mem_singleton] at hb
        subst hb
        exact fun z => hx (z ▸ ha)⟩
      have kL2 : ∀ y ∈ ks ++ [x], y < 12 := fun y hy => by
        rcases List.mem_append.mp hy with h | h
        · exact kL y h
        · rw [List.mem_singleton] at h; subst h; exact xL
      have kl2 := nodup_len 12 _ kN2 kL2
      rw [List.length_append, List.length_singleton] at kl2
      repeat walk_at "gm"
      refine st_dput ?_
      repeat walk_at "gm"
      refine ⟨_, rfl, ⟨_, _, rfl⟩, ?_⟩
      repeat walk_at "gm"
      refine ⟨_, _, _, rfl, rfl, by unfold keysD; rw [List.length_map]; omega, ?_⟩
      rw [sI_keys hx]
      repeat walk_at "gm"
      refine ev_lcP (fun _ e => edD e) es (fun e => decide (e.1 = x)) (fun e => iD e.2) (by repeat walk_at "gm") (by repeat walk_at "gm") (by show (!b.isOb && (!c.isOb && true)) = true; rw [hb, hc]; rfl) ?_
      refine it_listG ?_
      repeat walk_at "gm"
      refine ⟨by rw [List.length_map]; omega, idx_map edD, rfl, ?_, fun i e he Ha => ?_⟩
      · repeat walk_at "gm"
        have fl := List.length_filter_le (fun e : Nat × Nat => decide (e.1 = x)) es
        refine mt_ext rfl (by rw [List.length_map, List.length_map]; omega) ?_
        repeat walk_at "gm"
        refine ⟨(12 - (ks ++ [x]).length) * (es.length + 1) + (wt ++ (es.filter fun e => decide (e.1 = x)).map (·.2)).length, ?_, ks ++ [x], wt ++ (es.filter fun e => decide (e.1 = x)).map (·.2), .dat (iD x), b, c, rfl, hb, hc, ?_, rfl, kN2, kL2, fun y hy => ?_, fun y hy => ?_, fun y hy => ?_, fun r h => ?_, fun e h1 h2 => ?_, ?_⟩
        · simp only [List.length_append, List.length_map, List.length_cons, List.length_nil, Nat.zero_add]
          have e1 : 12 - ks.length = (12 - (ks.length + 1)) + 1 := by omega
          rw [e1, Nat.add_mul]
          omega
        · unfold iLs
          rw [List.map_append (l₁ := wt), List.map_map]
          rfl
        · rcases List.mem_append.mp hy with h | h
          · exact wL y (by simp [h])
          · obtain ⟨e, he, rfl⟩ := List.mem_map.mp h
            exact hE2 e (List.mem_filter.mp he).1
        · rcases List.mem_append.mp hy with h | h
          · exact kR y h
          · rw [List.mem_singleton] at h; subst h; exact xR
        · rcases List.mem_append.mp hy with h | h
          · exact wR y (by simp [h])
          · obtain ⟨e, he, rfl⟩ := List.mem_map.mp h
            obtain ⟨h3, h4⟩ := List.mem_filter.mp he
            have h4 := of_decide_eq_true h4
            subst h4
            exact fun U h1 h2 => h2 e h3 (xR U h1 h2)
        · rcases cR r h with h | h
          · exact .inl (List.mem_append_left _ h)
          · rcases List.mem_append.mp h with h | h
            · exact .inr (List.mem_append_left _ h)
            · exact .inl (List.mem_append_right _ h)
        · rcases List.mem_append.mp h2 with h | h
          · rcases cE e h1 h with h | h
            · exact .inl (List.mem_append_left _ h)
            · rcases List.mem_append.mp h with h | h
              · exact .inr (List.mem_append_left _ h)
              · exact .inl (List.mem_append_right _ h)
          · rw [List.mem_singleton] at h
            exact .inr (List.mem_append_right _ (List.mem_map.mpr ⟨e, List.mem_filter.mpr ⟨h1, decide_eq_true h⟩, rfl⟩))
        · rw [List.length_append, List.length_append, List.length_map, List.length_singleton]
          omega
      · repeat walk_at "gm"
        rw [eqN]
        refine ⟨rfl, fun _ => ?_, fun _ => rfl⟩
        repeat walk_at "gm"
        exact ⟨rfl, rfl⟩
  · have hw : wt = [] := by cases wt with
      | nil => rfl
      | cons a l => cases he
    subst hw
    refine st_freeze 2 rfl ?_
    repeat walk_at "gm"
    refine ⟨_, rfl, fun es' rs' e => ?_⟩
    simp only [List.cons.injEq, and_true, D.lst.injEq] at e
    rw [← map_inj (fun _ _ => edD_inj) e.1, ← iLs_inj e.2]
    refine ⟨ks, rfl, fun x => ⟨kR x, fun h => h (· ∈ ks) (fun r hr => ?_) fun e he h1 => ?_⟩⟩
    · exact (cR r hr).elim id fun z => by cases z
    · exact (cE e he h1).elim id fun z => by cases z
theorem ok_useful (F : FnP K "useful" "useful" s_useful [] f fd) (g : Bl mg) (c : Cn mg) (h_look_at : K_look_at P w K mg base T) (h_come_to : K_come_to P w K mg base T) : FnOk P w K mg base CX0 6 f fd ["machine"] (spR w T pr_useful po_useful) := by
  refine fnR F sc_useful ?_ fun cdv A outer s H E hr => ?_
  · rintro ds h
    (repeat (obtain ⟨_, h⟩ := h))
    first
      | rfl
      | (subst h; rfl)
  have hu := hr.units
  have hu1 := hu_of hr
  have nd := sc_useful.nd
  refine ⟨_, (pss_cons (ps_expr (pe_kn h_look_at (hr.mono (by decide)) (by rfl) (pa_cons (pv 0) pa_nil)))
  (pss_cons (ps_set (i := 1) nd rfl (by first | exact Or.inl rfl | exact Or.inr rfl) (pe_kn h_come_to (hr.mono (by decide)) (by rfl) (pa_cons (pe_lc (own := [("room", 3), ("sign", 4), ("to", 5)]) (by rfl) nd (kpi_seq (K := K) (pe_ix (kix_seq (K := K)) (pv 0) pe_int (fun _ _ => rfl))) (blkOk_by (own := [("room", 3), ("sign", 4), ("to", 5)]) (N := ["machine", "ahead", "behind", "room", "sign", "to"]) (sc := defScope s_useful) (by decide +kernel)) (fun _ _ _ _ _ => (kpg_tup (K := K) (n := 3) rfl (pgs_cons (pg_name (i := 3) nd rfl (by first | exact Or.inl rfl | exact Or.inr rfl)) (pgs_cons (pg_name (i := 4) nd rfl (by first | exact Or.inl rfl | exact Or.inr rfl)) (pgs_cons (pg_name (i := 5) nd rfl (by first | exact Or.inl rfl | exact Or.inr rfl)) pgs_nil))))) (fun _ _ _ _ _ => pts_nil) (fun _ _ _ _ _ => (pe_tup (pa_cons (pv 3) (pa_cons (pv 5) pa_nil))))) (pa_cons (pe_ix (kix_seq (K := K)) (pv 0) pe_int (fun _ _ => rfl)) pa_nil))))
  (pss_cons (ps_set (i := 2) nd rfl (by first | exact Or.inl rfl | exact Or.inr rfl) (pe_kn h_come_to (hr.mono (by decide)) (by rfl) (pa_cons (pe_lc (own := [("room", 3), ("sign", 4), ("to", 5)]) (by rfl) nd (kpi_seq (K := K) (pe_ix (kix_seq (K := K)) (pv 0) pe_int (fun _ _ => rfl))) (blkOk_by (own := [("room", 3), ("sign", 4), ("to", 5)]) (N := ["machine", "ahead", "behind", "room", "sign", "to"]) (sc := defScope s_useful) (by decide +kernel)) (fun _ _ _ _ _ => (kpg_tup (K := K) (n := 3) rfl (pgs_cons (pg_name (i := 3) nd rfl (by first | exact Or.inl rfl | exact Or.inr rfl)) (pgs_cons (pg_name (i := 4) nd rfl (by first | exact Or.inl rfl | exact Or.inr rfl)) (pgs_cons (pg_name (i := 5) nd rfl (by first | exact Or.inl rfl | exact Or.inr rfl)) pgs_nil))))) (fun _ _ _ _ _ => pts_nil) (fun _ _ _ _ _ => (pe_tup (pa_cons (pv 5) (pa_cons (pv 3) pa_nil))))) (pa_cons (pe_ix (kix_seq (K := K)) (pv 0) pe_int (fun _ _ => rfl)) pa_nil))))
  (pss_one (ps_ret (pe_lc (own := [("room", 3)]) (by rfl) nd (pi_range1 (by rfl) g.range (pa_cons (pe_ix (kix_seq (K := K)) (pv 0) pe_int (fun _ _ => rfl)) pa_nil)) (blkOk_by (own := [("room", 3)]) (N := ["machine", "ahead", "behind", "room", "sign", "to"]) (sc := defScope s_useful) (by decide +kernel)) (fun _ _ _ _ _ => (pg_name (i := 3) nd rfl (by first | exact Or.inl rfl | exact Or.inr rfl))) (fun _ _ _ _ _ => (pts_one (PW.pt (pw_and (pt_cmpR (op_inDI hu) (pv 3) (pv 1) (by rfl)) (pw_and1 (pt_cmpR (op_inDI hu) (pv 3) (pv 2) (by rfl))))))) (fun _ _ _ _ _ => (pv 3)))))))), fun H B ds hp => ?_⟩
  obtain ⟨m, hm, rfl⟩ := hp
  repeat walk_at "gm"
  refine ⟨⟨m, hm, rfl⟩, fun d e => ?_⟩
  clear e d
  repeat walk_at "gm"
  refine st_asg ?_
  repeat walk_at "gm"
  have hl := hm.stL
  have h12 := hm.n2
  have fsl : m.fs.length ≤ 12 := nodup_len 12 _ (hm.fsS.imp fun h => Nat.ne_of_lt h) fun r hr => Nat.lt_of_lt_of_le (hm.fsN r hr) h12
  have lsl : m.ls.length ≤ 12 := nodup_len 12 _ (hm.lsS.imp fun h => Nat.ne_of_lt h) fun r hr => Nat.lt_of_lt_of_le (hm.lsN r hr) h12
  refine ev_lcM (fun _ s => stD s) m.st (fun s => edD (s.1, s.2.2)) (by repeat walk_at "gm") (by repeat walk_at "gm") rfl ?_
  refine it_listG ?_
  repeat walk_at "gm"
  refine ⟨by rw [List.length_map]; omega, idx_map stD, rfl, ?_, fun i x hx Ha => by (repeat walk_at "gm"); exact ⟨rfl, rfl⟩⟩
  repeat walk_at "gm"
  refine ⟨⟨m.st.map fun s => (s.1, s.2.2), m.fs, by rw [List.length_map]; omega, fsl, fun e he => ?_, fun r hr => Nat.lt_of_lt_of_le (hm.fsN r hr) h12, by rw [List.map_map]; rfl⟩, fun d e => ?_⟩
  · obtain ⟨s, h1, rfl⟩ := List.mem_map.mp he
    exact Nat.lt_of_lt_of_le (hm.stN s h1).2.2 h12
  obtain ⟨k1, rfl, hk1⟩ := e (m.st.map fun s => (s.1, s.2.2)) m.fs (by rw [List.map_map]; rfl)
  repeat walk_at "gm"
  refine st_asg ?_
  repeat walk_at "gm"
  refine ev_lcM (fun _ s => stD s) m.st (fun s => edD (s.2.2, s.1)) (by repeat walk_at "gm") (by repeat walk_at "gm") rfl ?_
  refine it_listG ?_
  repeat walk_at "gm"
  refine ⟨by rw [List.length_map]; omega, idx_map stD, rfl, ?_, fun i x hx Ha => by (repeat walk_at "gm"); exact ⟨rfl, rfl⟩⟩
  repeat walk_at "gm"
  refine ⟨⟨m.st.map fun s => (s.2.2, s.1), m.ls, by rw [List.length_map]; omega, lsl, fun e he => ?_, fun r hr => Nat.lt_of_lt_of_le (hm.lsN r hr) h12, by rw [List.map_map]; rfl⟩, fun d e => ?_⟩
  · obtain ⟨s, h1, rfl⟩ := List.mem_map.mp he
    exact Nat.lt_of_lt_of_le (hm.stN s h1).1 h12
  obtain ⟨k2, rfl, hk2⟩ := e (m.st.map fun s => (s.2.2, s.1)) m.ls (by rw [List.map_map]; rfl)
  repeat walk_at "gm"
  refine ev_lcP (fun _ i => iD i) (List.range m.n) (fun r => decide (r ∈ k1) && decide (r ∈ k2)) iD (by repeat walk_at "gm") (by repeat walk_at "gm") rfl ?_
  repeat walk_at "gm"
  refine ⟨by omega, by rw [List.length_map, List.length_range]; omega, idx_map iD, rfl, ⟨_, rfl, fun m' e => ?_⟩, fun i x hx Ha => ?_⟩
  · simp only [List.cons.injEq, and_true] at e
    rw [← Mach.d_inj e]
    unfold iLs Mach.use
    refine congrArg (fun l => D.lst (l.map iD)) (List.filter_congr fun r _ => ?_)
    rw [decide_eq_decide.mpr (hk1 r), decide_eq_decide.mpr (hk2 r)]
  · repeat walk_at "gm"
    refine op_inI' rfl rfl ⟨_, rfl, ?_⟩
    rw [gI_keys]
    refine tk_b (fun h1 => ?_) fun h1 => ?_
    · repeat walk_at "gm"
      refine op_inI' rfl rfl ⟨_, rfl, ?_⟩
      rw [gI_keys]
      have h1 : decide (x ∈ k1) = true := h1
      refine ⟨by show decide (x ∈ k2) = _; rw [h1]; rfl, fun _ => ?_, fun _ => rfl⟩
      repeat walk_at "gm"
      exact ⟨rfl, rfl⟩
    · have h1 : decide (x ∈ k1) = false := h1
      exact ⟨by rw [h1]; rfl, fun z => (by cases z), fun _ => rfl⟩
theorem ok_trimmed (F : FnP K "trimmed" "trimmed" s_trimmed [] f fd) (g : Bl mg) (c : Cn mg) (h_useful : K_useful P w K mg base T) : FnOk P w K mg base CX0 7 f fd ["machine"] (spR w T pr_trimmed po_trimmed) := by
  refine fnR F sc_trimmed ?_ fun cdv A outer s H E hr => ?_
  · rintro ds h
    (repeat (obtain ⟨_, h⟩ := h))
    first
      | rfl
      | (subst h; rfl)
  have hu := hr.units
  have hu1 := hu_of hr
  have nd := sc_trimmed.nd
  refine ⟨_, (pss_cons (ps_set (i := 1) nd rfl (by first | exact Or.inl rfl | exact Or.inr rfl) (pe_kn h_useful (hr.mono (by decide)) (by rfl) (pa_cons (pv 0) pa_nil)))
  (pss_cons (ps_setLc (i := 2) (own := [("room", 4)]) (by rfl) nd rfl rfl (sw_true rfl rfl rfl (by decide +kernel)) (kpi_seq (K := K) (pe_ix (kix_seq (K := K)) (pv 0) pe_int (fun _ _ => rfl))) (blkOk_by (own := [("room", 4)]) (N := ["machine", "rooms", "firsts", "lasts", "room", "step"]) (sc := defScope s_trimmed) (by decide +kernel)) (fun _ _ _ _ _ => (pg_name (i := 4) nd rfl (by first | exact Or.inl rfl | exact Or.inr rfl))) (fun _ _ _ _ _ => (pts_one (pt_cmpR (kop_in (K := K)) (pv 4) (pv 1) (by rfl)))) (fun _ _ _ _ _ => (pv 4)))
  (pss_cons (ps_setLc (i := 3) (own := [("room", 4)]) (by rfl) nd rfl rfl (sw_true rfl rfl rfl (by decide +kernel)) (kpi_seq (K := K) (pe_ix (kix_seq (K := K)) (pv 0) pe_int (fun _ _ => rfl))) (blkOk_by (own := [("room", 4)]) (N := ["machine", "rooms", "firsts", "lasts", "room", "step"]) (sc := defScope s_trimmed) (by decide +kernel)) (fun _ _ _ _ _ => (pg_name (i := 4) nd rfl (by first | exact Or.inl rfl | exact Or.inr rfl))) (fun _ _ _ _ _ => (pts_one (pt_cmpR (kop_in (K := K)) (pv 4) (pv 1) (by rfl)))) (fun _ _ _ _ _ => (pv 4)))
  (pss_one (ps_ret (pe_tup (pa_cons (pe_ix (kix_seq (K := K)) (pv 0) pe_int (fun _ _ => rfl)) (pa_cons (pv 2) (pa_cons (pv 3) (pa_cons (pe_lc (own := [("step", 5)]) (by rfl) nd (kpi_seq (K := K) (pe_ix (kix_seq (K := K)) (pv 0) pe_int (fun _ _ => rfl))) (blkOk_by (own := [("step", 5)]) (N := ["machine", "rooms", "firsts", "lasts", "room", "step"]) (sc := defScope s_trimmed) (by decide +kernel)) (fun _ _ _ _ _ => (pg_name (i := 5) nd rfl (by first | exact Or.inl rfl | exact Or.inr rfl))) (fun _ _ _ _ _ => (pts_one (PW.pt (pw_and (pt_cmpR (kop_in (K := K)) (pe_ix (kix_seq (K := K)) (pv 5) pe_int (fun _ _ => rfl)) (pv 1) (by rfl)) (pw_and1 (pt_cmpR (kop_in (K := K)) (pe_ix (kix_seq (K := K)) (pv 5) pe_int (fun _ _ => rfl)) (pv 1) (by rfl))))))) (fun _ _ _ _ _ => (pv 5))) pa_nil)))))))))), fun H B ds hp => ?_⟩
  obtain ⟨m, hm, rfl⟩ := hp
  repeat walk_at "gm"
  refine st_asg ?_
  repeat walk_at "gm"
  refine ⟨⟨m, hm, rfl⟩, fun d e => ?_⟩
  rw [e m rfl]
  repeat walk_at "gm"
  have hl := hm.stL
  have h12 := hm.n2
  have fsl : m.fs.length ≤ 12 := nodup_len 12 _ (hm.fsS.imp fun h => Nat.ne_of_lt h) fun r hr => Nat.lt_of_lt_of_le (hm.fsN r hr) h12
  have lsl : m.ls.length ≤ 12 := nodup_len 12 _ (hm.lsS.imp fun h => Nat.ne_of_lt h) fun r hr => Nat.lt_of_lt_of_le (hm.lsN r hr) h12
  refine st_asgF ?_
  refine ev_lcP (fun _ x => iD x) m.fs (fun r => decide (r ∈ m.use)) iD (by repeat walk_at "gm") (by repeat walk_at "gm") rfl ?_
  refine it_listG ?_
  repeat walk_at "gm"
  refine ⟨by rw [List.length_map]; omega, idx_map iD, rfl, ?_, fun i x hx Ha => ?_⟩
  rotate_left
  · repeat walk_at "gm"
    refine ⟨rfl, fun _ => ?_, fun _ => rfl⟩
    repeat walk_at "gm"
    exact ⟨rfl, rfl⟩
  repeat walk_at "gm"
  refine st_asgF ?_
  refine ev_lcP (fun _ x => iD x) m.ls (fun r => decide (r ∈ m.use)) iD (by repeat walk_at "gm") (by repeat walk_at "gm") rfl ?_
  refine it_listG ?_
  repeat walk_at "gm"
  refine ⟨by rw [List.length_map]; omega, idx_map iD, rfl, ?_, fun i x hx Ha => ?_⟩
  rotate_left
  · repeat walk_at "gm"
    refine ⟨rfl, fun _ => ?_, fun _ => rfl⟩
    repeat walk_at "gm"
    exact ⟨rfl, rfl⟩
  repeat walk_at "gm"
  refine ev_lcP (fun _ s => stD s) m.st (fun s => decide (s.1 ∈ m.use) && decide (s.2.2 ∈ m.use)) stD (by repeat walk_at "gm") (by repeat walk_at "gm") rfl ?_
  refine it_listG ?_
  repeat walk_at "gm"
  refine ⟨by rw [List.length_map]; omega, idx_map stD, rfl, ?_, fun i x hx Ha => ?_⟩
  rotate_left
  · repeat walk_at "gm"
    refine tk_b (fun h1 => ?_) fun h1 => ?_
    · have h1 : decide (x.1 ∈ m.use) = true := h1
      repeat walk_at "gm"
      refine ⟨by show decide (x.2.2 ∈ m.use) = _; rw [h1]; rfl, fun _ => ?_, fun _ => rfl⟩
      repeat walk_at "gm"
      exact ⟨rfl, rfl⟩
    · have h1 : decide (x.1 ∈ m.use) = false := h1
      exact ⟨by rw [h1]; rfl, fun z => (by cases z), fun _ => rfl⟩
  repeat walk_at "gm"
  refine ⟨_, rfl, fun m' e => ?_⟩
  simp only [List.cons.injEq, and_true] at e
  rw [← Mach.d_inj e]
  rfl
end
end Gm
namespace Gm
open PySem PySem.Spec PyProof.Rows L2
local macro_rules | `(tactic| walk_at "gm") => `(tactic| first
  | (with_reducible refine st_seq ?_)
  | ((with_reducible show Tg _ (gName _) _ _ _); refine tg_nameG rfl ?_)
  | ((with_reducible show Tg _ (gTup _ _ _) _ _ _); refine tg_tup (by rfl) ?_)
  | (with_reducible refine tgs_cons ?_)
  | (with_reducible refine tgs_nil ?_)
  | (with_reducible refine tgin_name (by decide))
  | (with_reducible refine tgin_tup ?_)
  | (with_reducible refine tgsin_cons ?_ ?_ ?_ ?_)
  | (with_reducible exact tgsin_nil)
  | (with_reducible exact tgm_name)
  | (with_reducible refine tgm_tup ?_)
  | (with_reducible refine tgsm_cons ?_ ?_)
  | (with_reducible exact tgsm_nil)
  | (with_reducible refine ev_neg ?_)
  | ((with_reducible show ∃ i, Rz.d (D.int _) = Rz.d (D.int i) ∧ _); refine ⟨_, rfl, ?_⟩)
  | (with_reducible refine it_enumG ?_)
  | (with_reducible refine it_rngG ?_)
  | (with_reducible refine st_if ?_)
  | (with_reducible refine st_ret ?_)
  | (with_reducible refine st_retN ?_)
  | (with_reducible refine st_drop ?_)
  | (with_reducible refine st_next ?_)
  | (with_reducible refine st_cont ?_)
  | (with_reducible refine et_B ?_)
  | (with_reducible refine et_test ?_)
  | (with_reducible refine et_not ?_)
  | (with_reducible refine et_and ?_)
  | (with_reducible refine et_or ?_)
  | (with_reducible refine ev_andV ?_)
  | (with_reducible refine ev_orV ?_)
  | (with_reducible refine ev_notV ?_)
  | (with_reducible refine ev_if ?_)
  | (with_reducible refine ev_chain ?_)
  | (with_reducible refine ev_op' ?_)
  | (with_reducible refine ev_tupG ?_)
  | (with_reducible refine ev_lstG ?_)
  | (with_reducible refine ev_callG rs_nil rfl rfl ?_)
  | (with_reducible refine ev_cb ?_)
  | (with_reducible refine ev_bm ?_)
  | (with_reducible refine ev_bm0 ?_)
  | (with_reducible refine ev_m1 ?_)
  | (with_reducible refine ev_slice ?_)
  | (with_reducible refine eo_none ?_)
  | (with_reducible refine eo_some ?_)
  | (with_reducible refine ea_cons' ?_)
  | (with_reducible refine ea_nil ?_)
  | ((with_reducible show Ev _ (tVar _) _ _); refine ev_var rfl rfl ?_)
  | (with_reducible refine ev_int ?_)
  | (with_reducible refine ev_str ?_)
  | (with_reducible refine ev_bl ?_)
  | (with_reducible refine ev_non ?_)
  | ((with_reducible show Ev _ (tC (V.ty _)) _ _); refine ev_cx ?_)
  | ((with_reducible show ∃ b, Rz.d (D.bl _) = Rz.d (D.bl b) ∧ _); refine ⟨_, rfl, ?_⟩)
  | ((with_reducible show ∃ ds, unDs _ = some ds ∧ _); refine ⟨_, rfl, ?_⟩)
  | ((with_reducible show List.length _ ≤ 100000 ∧ _); refine and_ble rfl ?_)
  | ((with_reducible show Cb _ (rIsi _) _ _ _); refine cb_isT rfl rfl rfl (by decide) ?_)
  | ((with_reducible show Cb _ (fun xs H Q => ∃ x n, xs = [x] ∧ LenV _ x H n ∧ Q (.int n) H) _ _ _); refine cb_lenG rfl rfl ?_)
  | ((with_reducible show Op2 _ (orR rEq _) _ _ _ _); first | refine op_eqI rfl rfl ?_ | refine op_eqS rfl rfl ?_)
  | ((with_reducible show Op2 _ (orR rNe _) _ _ _ _); first | refine op_neI rfl rfl ?_ | refine op_neB rfl rfl ?_)
  | ((with_reducible show Op2 _ (rI0 _) _ _ _ _); first | refine op_cmpI rfl rfl ?_ | refine op_subI rfl rfl ?_)
  | ((with_reducible show Op2 _ (orR (rI0 _) _) _ _ _ _); refine op_addI rfl rfl ?_)
  | ((with_reducible show Op2 _ (fun x y H Q => y = V.non ∧ _) _ _ _ _); first | refine op_is rfl rfl ?_ | refine op_isnot rfl rfl ?_)
  | ((with_reducible show Op2 _ (fun x y H Q => ∃ (c : Nat) (z : Str), x = V.str ⟨#[c]⟩ ∧ _) _ _ _ _); refine op_inSign rfl rfl ?_)
  | ((with_reducible show Op2 _ (rIx _) _ _ _ _); refine op_ix rfl rfl rfl (fun _ z => by cases z) ?_)
  | (with_reducible refine ev_newN rfl ?_)
  | (with_reducible refine ev_newI ?_)
  | ((with_reducible show Cb _ (fun xs H Q => (∃ i, xs = [V.int i] ∧ _) ∨ _) _ _ _); refine cb_intB rfl ?_)
  | ((with_reducible show Op2 _ (rIn _ _) _ _ _ _); refine op_inL rfl rfl ?_)
  | (with_reducible refine it_listG ?_)
  | (with_reducible refine et_yes ?_)
  | ((with_reducible show ∃ ds, unD _ = some (D.lst ds) ∧ _); refine ⟨_, rfl, ?_⟩)
  | ((with_reducible show ∃ ds, unDs _ = some [D.lst ds] ∧ _); refine ⟨_, rfl, ?_⟩)
  | ((with_reducible show ∃ n, unDs _ = some [iD n] ∧ _); refine ⟨_, rfl, ?_⟩)
  | ((with_reducible show (∃ d, vw _ _ = some d ∧ tyD _ d) ∧ _); refine ⟨⟨_, rfl, rfl⟩, ?_⟩)
  | ((with_reducible show Mt _ rAppend (Rz.o _) [Rz.d _] _ _); refine mt_app rfl ?_ ?_)
  | (with_reducible refine it_enumS ?_)
  | ((with_reducible show ∃ s, unDs _ = some [D.str s] ∧ _); refine ⟨_, rfl, ?_⟩))
abbrev s_raised : Stmt := topS 45
theorem sc_raised : FnScope ["found", "pairs", "by", "changed", "room", "other"] ["found", "pairs", "by"] (defScope s_raised) := ⟨rfl, rfl, rfl, by decide +kernel, rfl, by decide +kernel, by decide +kernel⟩
abbrev s_ranks : Stmt := topS 46
theorem sc_ranks : FnScope ["machine", "rooms", "led", "steps", "found", "room", "changed", "other", "text", "sign", "to"] ["machine"] (defScope s_ranks) := ⟨rfl, rfl, rfl, by decide +kernel, rfl, by decide +kernel, by decide +kernel⟩
abbrev s_greatest_rank : Stmt := topS 47
theorem sc_greatest_rank : FnScope ["some", "rank"] ["some"] (defScope s_greatest_rank) := ⟨rfl, rfl, rfl, by decide +kernel, rfl, by decide +kernel, by decide +kernel⟩
abbrev s_growth : Stmt := topS 48
theorem sc_growth : FnScope ["machine", "some"] ["machine"] (defScope s_growth) := ⟨rfl, rfl, rfl, by decide +kernel, rfl, by decide +kernel, by decide +kernel⟩
def Mach.Det (m : Mach) : Prop := ∀ s ∈ m.st, ∀ t ∈ m.st, s.1 = t.1 → s.2.1 = t.2.1 → s = t
theorem Mach.Det.trim {m : Mach} (h : m.Det) : m.trim.Det := fun s hs t ht => h s (List.mem_filter.mp hs).1 t (List.mem_filter.mp ht).1
abbrev pr_double_rounds (ds : List D) : Prop := ∃ m : Mach, m.Ok ∧ m.Det ∧ ds = [m.d]
abbrev po_double_rounds (ds : List D) (d : D) : Prop := d = .lst []
abbrev K_double_rounds (P : Program) (w : World) (K : PySem.W.Frag) (mg : Str → Option Value) (base : Heap) (T : List NdefX.NTab) : Prop := KnR P w K mg base T "double_rounds" 10 [] pr_double_rounds po_double_rounds
abbrev pr_led_rounds (ds : List D) : Prop := ∃ m : Mach, m.Ok ∧ m.Det ∧ ds = [m.d]
abbrev po_led_rounds (ds : List D) (d : D) : Prop := d = .lst []
abbrev K_led_rounds (P : Program) (w : World) (K : PySem.W.Frag) (mg : Str → Option Value) (base : Heap) (T : List NdefX.NTab) : Prop := KnR P w K mg base T "led_rounds" 10 [] pr_led_rounds po_led_rounds
def zeroD (ks : List Nat) : List (Int × D) := ks.map fun (k : Nat) => ((k : Int), D.int 0)
abbrev pr_raised (ds : List D) : Prop := ∃ (ks : List Nat) (ps : List (Nat × Nat)) (b : Int), (b = 0 ∨ ps = []) ∧ (∀ p ∈ ps, p.1 ∈ ks ∧ p.2 ∈ ks) ∧ ds = [.dI (zeroD ks), .lst (ps.map edD), .int b]
abbrev po_raised (ds : List D) (d : D) : Prop := d = .bl false
abbrev K_raised (P : Program) (w : World) (K : PySem.W.Frag) (mg : Str → Option Value) (base : Heap) (T : List NdefX.NTab) : Prop := KnR P w K mg base T "raised" 1 [] pr_raised po_raised
def zD (b : Bool) : D := if b = true then .int 0 else .non
abbrev pr_ranks (ds : List D) : Prop := ∃ m : Mach, m.Ok ∧ m.Det ∧ ds = [m.d]
abbrev po_ranks (ds : List D) (d : D) : Prop := ∃ bs : List Bool, bs.length ≤ 12 ∧ d = .lst (bs.map zD)
abbrev K_ranks (P : Program) (w : World) (K : PySem.W.Frag) (mg : Str → Option Value) (base : Heap) (T : List NdefX.NTab) : Prop := KnR P w K mg base T "ranks" 11 [] pr_ranks po_ranks
abbrev pr_greatest_rank (ds : List D) : Prop := ∃ bs : List Bool, bs.length ≤ 12 ∧ ds = [.lst (bs.map zD)]
abbrev po_greatest_rank (ds : List D) (d : D) : Prop := d = .int 0
abbrev K_greatest_rank (P : Program) (w : World) (K : PySem.W.Frag) (mg : Str → Option Value) (base : Heap) (T : List NdefX.NTab) : Prop := KnR P w K mg base T "greatest_rank" 1 [] pr_greatest_rank po_greatest_rank
abbrev pr_growth (ds : List D) : Prop := ∃ m : Mach, m.Ok ∧ m.Det ∧ ds = [m.d]
abbrev po_growth (ds : List D) (d : D) : Prop := d = .tup [.str "never"]
abbrev K_growth (P : Program) (w : World) (K : PySem.W.Frag) (mg : Str → Option Value) (base : Heap) (T : List NdefX.NTab) : Prop := KnR P w K mg base T "growth" 12 [] pr_growth po_growth
theorem gI_zero {ks : List Nat} {x : Nat} (h : x ∈ ks) : gI (zeroD ks) (x : Int) = some (.int 0) := by
  unfold gI zeroD
  induction ks with
  | nil => cases h
  | cons a ks ih =>
    rw [List.map_cons]
    by_cases e : a = x
    · subst e
      rw [List.find?_cons_of_pos (by simp)]
      rfl
    · rw [List.find?_cons_of_neg (by simp; omega)]
      exact ih ((List.mem_cons.mp h).elim (fun z => absurd z.symm e) id)
theorem gI_zero' (ks : List Nat) (x : Nat) : (gI (zeroD ks) (x : Int)).getD .non = zD (decide (x ∈ ks)) := by
  unfold gI zeroD
  induction ks with
  | nil => rfl
  | cons a ks ih =>
    rw [List.map_cons]
    by_cases e : a = x
    · subst e
      rw [List.find?_cons_of_pos (by simp)]
      simp [zD]
    · rw [List.find?_cons_of_neg (by simp; omega), ih]
      have : ¬ x = a := fun z => e z.symm
      simp [this]
theorem sI_zero {ks : List Nat} {x : Nat} (h : x ∉ ks) : sI (zeroD ks) (x : Int) (.int 0) = zeroD (ks ++ [x]) := by
  unfold sI
  rw [if_neg]
  · unfold zeroD; rw [List.map_append]; rfl
  · unfold zeroD
    rw [List.any_map, List.any_eq_true]
    rintro ⟨k, h1, h2⟩
    simp only [Function.comp, decide_eq_true_eq] at h2
    have : k = x := by omega
    subst this
    exact h h1
theorem fold_zero : ∀ l : List Bool, (match l.map (fun _ => (0 : Int)) with | [] => (0 : Int) | n :: r => r.foldl max n) = 0
  | [] => rfl
  | _ :: l => by
    show (l.map fun _ => (0 : Int)).foldl max 0 = 0
    induction l with
    | nil => rfl
    | cons a l ih => exact ih
theorem op_orB {Z : Zn} {Γ : List Kd} {k : Rz → List Kd → Prop} {a b : Bool} {r1 r2 : Rz} (e1 : vw Γ r1 = some (.bl a)) (e2 : vw Γ r2 = some (.bl b)) (hk : k (.d (.bl (a || b))) Γ) : Op2 Z (fun x y H Q => ∃ a b, x = V.bl a ∧ y = V.bl b ∧ Q (V.bl (a || b)) H) r1 r2 Γ k :=
  op2_val e1 e2 (fun B H v1 v2 _ x1 x2 Q q => ⟨a, b, x1.bl, x2.bl, q _ (.bl _)⟩) hk
section
variable {P : Program} {w : World} {K : PySem.W.Frag} {mg : Str → Option Value} {base : Heap} {T : List NdefX.NTab} {f : Addr} {fd : FuncData}
theorem ok_raised (F : FnP K "raised" "raised" s_raised [] f fd) (g : Bl mg) (c : Cn mg)  : FnOk P w K mg base CX0 1 f fd ["found", "pairs", "by"] (spR w T pr_raised po_raised) := by
  refine fnR F sc_raised ?_ fun cdv A outer s H E hr => ?_
  · rintro ds h
    (repeat (obtain ⟨_, h⟩ := h))
    first
      | rfl
      | (subst h; rfl)
  have hu := hr.units
  have hu1 := hu_of hr
  have nd := sc_raised.nd
  refine ⟨_, (pss_cons (ps_set (i := 3) nd rfl (by first | exact Or.inl rfl | exact Or.inr rfl) pe_bl)
  (pss_cons (ps_for PassesOwn.never rfl (kpi_seq (K := K) (pv 1)) (kpg_tup (K := K) (n := 2) rfl (pgs_cons (pg_name (i := 4) nd rfl (by first | exact Or.inl rfl | exact Or.inr rfl)) (pgs_cons (pg_name (i := 5) nd rfl (by first | exact Or.inl rfl | exact Or.inr rfl)) pgs_nil))) (pss_one (ps_if (pt_cmpR op_lt (pe_dget hu1 (pv 0) (pv 5) (fun _ _ => rfl)) (pe_op op_ADD (pe_dget hu1 (pv 0) (pv 4) (fun _ _ => rfl)) (pv 2)) (nomark _)) (pss_cons (ps_dput hu1 (pv 0) (pv 5) (pe_op op_ADD (pe_dget hu1 (pv 0) (pv 4) (fun _ _ => rfl)) (pv 2)) rfl)
  (pss_one (ps_set (i := 3) nd rfl (by first | exact Or.inl rfl | exact Or.inr rfl) pe_bl))) pss_nil)))
  (pss_one (ps_ret (pv 3))))), fun H B ds hp => ?_⟩
  obtain ⟨ks, ps, b, hb, hps, rfl⟩ := hp
  repeat walk_at "gm"
  refine st_asg ?_
  repeat walk_at "gm"
  refine st_forG (fun _ p => edD p) ps (fun q Γ => ∃ x y, Γ = [.dat (.dI (zeroD ks)), .dat (.lst (ps.map edD)), .dat (.int b), .dat (.bl false), x, y]) ?_
  refine it_listG ?_
  repeat walk_at "gm"
  refine ⟨idx_map edD, ⟨_, _, rfl⟩, fun q p r e Γ ⟨x, y, hΓ⟩ => ?_, fun Γ ⟨x, y, hΓ⟩ => ?_⟩
  · subst hΓ
    have hp := hps p (by rw [e]; simp)
    have hb0 : b = 0 := hb.elim id fun z => by subst z; simp at e
    subst hb0
    repeat walk_at "gm"
    refine ev_dget ?_
    repeat walk_at "gm"
    refine ⟨_, _, _, rfl, rfl, gI_zero hp.2, ?_⟩
    repeat walk_at "gm"
    refine ev_dget ?_
    repeat walk_at "gm"
    refine ⟨_, _, _, rfl, rfl, gI_zero hp.1, ?_⟩
    repeat walk_at "gm"
    refine tk_f (by rfl) ?_
    repeat walk_at "gm"
    exact ⟨_, _, rfl⟩
  · subst hΓ
    repeat walk_at "gm"
    exact ⟨_, rfl, rfl⟩
theorem ok_greatest_rank (F : FnP K "greatest_rank" "greatest_rank" s_greatest_rank [] f fd) (g : Bl mg) (c : Cn mg)  : FnOk P w K mg base CX0 1 f fd ["some"] (spR w T pr_greatest_rank po_greatest_rank) := by
  refine fnR F sc_greatest_rank ?_ fun cdv A outer s H E hr => ?_
  · rintro ds h
    (repeat (obtain ⟨_, h⟩ := h))
    first
      | rfl
      | (subst h; rfl)
  have hu := hr.units
  have hu1 := hu_of hr
  have nd := sc_greatest_rank.nd
  refine ⟨_, (pss_one (ps_ret (pe_callBK (kcrk_max (K := K) hu rfl) (by rfl) g.max boot_max (pa_cons (pe_lc (own := [("rank", 1)]) (by rfl) nd (kpi_seq (K := K) (pv 0)) (blkOk_by (own := [("rank", 1)]) (N := ["some", "rank"]) (sc := defScope s_greatest_rank) (by decide +kernel)) (fun _ _ _ _ _ => (pg_name (i := 1) nd rfl (by first | exact Or.inl rfl | exact Or.inr rfl))) (fun _ _ _ _ _ => (pts_one (pt_cmpR op_notN (pv 1) pe_non (nomark _)))) (fun _ _ _ _ _ => (pv 1))) pa_nil) (pk_cons pe_int pk_nil)))), fun H B ds hp => ?_⟩
  obtain ⟨bs, hb, rfl⟩ := hp
  repeat walk_at "gm"
  refine ev_kw (r1 := .d .non) (d := 0) ?_
  repeat walk_at "gm"
  refine ev_lcP (fun _ b => zD b) bs (fun b => b) (fun _ => .int 0) (by repeat walk_at "gm") (by repeat walk_at "gm") rfl ?_
  refine it_listG ?_
  repeat walk_at "gm"
  refine ⟨by rw [List.length_map]; omega, idx_map zD, rfl, ?_, fun i x hx Ha => ?_⟩
  · repeat walk_at "gm"
    refine ⟨_, _, .int 0, rfl, rfl, ⟨.lst (((bs.filter fun b => b).map fun _ => (0 : Int)).map D.int), by rw [List.map_map]; rfl, kw_max (fold_zero _)⟩, ?_⟩
    exact ⟨_, rfl, rfl⟩
  · repeat walk_at "gm"
    refine ⟨by cases x <;> rfl, fun hb => ?_, fun _ => rfl⟩
    repeat walk_at "gm"
    cases x
    · cases hb
    · exact ⟨rfl, rfl⟩
theorem ok_growth (F : FnP K "growth" "growth" s_growth [] f fd) (g : Bl mg) (c : Cn mg) (h_ranks : K_ranks P w K mg base T) (h_greatest_rank : K_greatest_rank P w K mg base T) : FnOk P w K mg base CX0 12 f fd ["machine"] (spR w T pr_growth po_growth) := by
  refine fnR F sc_growth ?_ fun cdv A outer s H E hr => ?_
  · rintro ds h
    (repeat (obtain ⟨_, h⟩ := h))
    first
      | rfl
      | (subst h; rfl)
  have hu := hr.units
  have hu1 := hu_of hr
  have nd := sc_growth.nd
  refine ⟨_, (pss_cons (ps_set (i := 1) nd rfl (by first | exact Or.inl rfl | exact Or.inr rfl) (pe_kn h_ranks (hr.mono (by decide)) (by rfl) (pa_cons (pv 0) pa_nil)))
  (pss_cons (ps_if (pt_cmpR op_isN (pv 1) pe_non (nomark _)) (pss_one (ps_ret (pe_tup (pa_cons pe_str pa_nil)))) pss_nil)
  (pss_cons (ps_if (pt_cmpR (kop_EQ (K := K) hu) (pe_kn h_greatest_rank (hr.mono (by decide)) (by rfl) (pa_cons (pv 1) pa_nil)) pe_int (nomark _)) (pss_one (ps_ret (pe_tup (pa_cons pe_str pa_nil)))) pss_nil)
  (pss_one (ps_ret (pe_tup (pa_cons pe_str (pa_cons (pe_kn h_greatest_rank (hr.mono (by decide)) (by rfl) (pa_cons (pv 1) pa_nil)) pa_nil)))))))), fun H B ds hp => ?_⟩
  obtain ⟨m, hm, hd, rfl⟩ := hp
  repeat walk_at "gm"
  refine st_asg ?_
  repeat walk_at "gm"
  refine ⟨⟨m, hm, hd, rfl⟩, ?_⟩
  rintro d ⟨bs, hb, rfl⟩
  repeat walk_at "gm"
  refine tk_f (by rfl) ?_
  repeat walk_at "gm"
  refine ⟨⟨bs, hb, rfl⟩, fun d e => ?_⟩
  subst e
  repeat walk_at "gm"
  refine tk_t (by rfl) ?_
  repeat walk_at "gm"
  exact ⟨_, rfl, rfl⟩
theorem ok_ranks (F : FnP K "ranks" "ranks" s_ranks [] f fd) (g : Bl mg) (c : Cn mg) (h_double_rounds : K_double_rounds P w K mg base T) (h_useful : K_useful P w K mg base T) (h_led_rounds : K_led_rounds P w K mg base T) (h_trimmed : K_trimmed P w K mg base T) (h_raised : K_raised P w K mg base T) : FnOk P w K mg base CX0 11 f fd ["machine"] (spR w T pr_ranks po_ranks) := by
  refine fnR F sc_ranks ?_ fun cdv A outer s H E hr => ?_
  · rintro ds h
    (repeat (obtain ⟨_, h⟩ := h))
    first
      | rfl
      | (subst h; rfl)
  have hu := hr.units
  have hu1 := hu_of hr
  have nd := sc_ranks.nd
  refine ⟨_, (pss_cons (ps_if (pt_cmpR (kop_NE (K := K) hu) (pe_kn h_double_rounds (hr.mono (by decide)) (by rfl) (pa_cons (pv 0) pa_nil)) (pe_lst pa_nil) (nomark _)) (pss_one (ps_ret pe_non)) pss_nil)
  (pss_cons (ps_set (i := 1) nd rfl (by first | exact Or.inl rfl | exact Or.inr rfl) (pe_kn h_useful (hr.mono (by decide)) (by rfl) (pa_cons (pv 0) pa_nil)))
  (pss_cons (ps_setLc (i := 2) (own := [("room", 5), ("other", 7), ("text", 8)]) (by rfl) nd rfl rfl (sw_true rfl rfl rfl (by decide +kernel)) (kpi_seq (K := K) (pe_kn h_led_rounds (hr.mono (by decide)) (by rfl) (pa_cons (pv 0) pa_nil))) (blkOk_by (own := [("room", 5), ("other", 7), ("text", 8)]) (N := ["machine", "rooms", "led", "steps", "found", "room", "changed", "other", "text", "sign", "to"]) (sc := defScope s_ranks) (by decide +kernel)) (fun _ _ _ _ _ => (kpg_tup (K := K) (n := 3) rfl (pgs_cons (pg_name (i := 5) nd rfl (by first | exact Or.inl rfl | exact Or.inr rfl)) (pgs_cons (pg_name (i := 7) nd rfl (by first | exact Or.inl rfl | exact Or.inr rfl)) (pgs_cons (pg_name (i := 8) nd rfl (by first | exact Or.inl rfl | exact Or.inr rfl)) pgs_nil))))) (fun _ _ _ _ _ => pts_nil) (fun _ _ _ _ _ => (pe_tup (pa_cons (pv 5) (pa_cons (pv 7) pa_nil)))))
  (pss_cons (ps_setLc (i := 3) (own := [("room", 5), ("sign", 9), ("to", 10)]) (by rfl) nd rfl rfl (sw_true rfl rfl rfl (by decide +kernel)) (kpi_seq (K := K) (pe_ix (kix_seq (K := K)) (pe_kn h_trimmed (hr.mono (by decide)) (by rfl) (pa_cons (pv 0) pa_nil)) pe_int (fun _ _ => rfl))) (blkOk_by (own := [("room", 5), ("sign", 9), ("to", 10)]) (N := ["machine", "rooms", "led", "steps", "found", "room", "changed", "other", "text", "sign", "to"]) (sc := defScope s_ranks) (by decide +kernel)) (fun _ _ _ _ _ => (kpg_tup (K := K) (n := 3) rfl (pgs_cons (pg_name (i := 5) nd rfl (by first | exact Or.inl rfl | exact Or.inr rfl)) (pgs_cons (pg_name (i := 9) nd rfl (by first | exact Or.inl rfl | exact Or.inr rfl)) (pgs_cons (pg_name (i := 10) nd rfl (by first | exact Or.inl rfl | exact Or.inr rfl)) pgs_nil))))) (fun _ _ _ _ _ => pts_nil) (fun _ _ _ _ _ => (pe_tup (pa_cons (pv 5) (pa_cons (pv 10) pa_nil)))))
  (pss_cons (ps_set (i := 4) nd rfl (by first | exact Or.inl rfl | exact Or.inr rfl) pe_dnewK)
  (pss_cons (ps_for PassesOwn.never rfl (kpi_seq (K := K) (pv 1)) (pg_name (i := 5) nd rfl (by first | exact Or.inl rfl | exact Or.inr rfl)) (pss_one (ps_dput hu1 (pv 4) (pv 5) pe_int rfl)))
  (pss_cons (ps_set (i := 6) nd rfl (by first | exact Or.inl rfl | exact Or.inr rfl) pe_bl)
  (pss_cons (ps_while PassesOwn.never (pt_val (pv 6)) (pss_cons (ps_set (i := 6) nd rfl (by first | exact Or.inl rfl | exact Or.inr rfl) (pe_kn h_raised (hr.mono (by decide)) (by rfl) (pa_cons (pv 4) (pa_cons (pv 2) (pa_cons pe_int pa_nil)))))
  (pss_one (ps_aug (i := 6) nd rfl (by first | exact Or.inl rfl | exact Or.inr rfl) (pe_kn h_raised (hr.mono (by decide)) (by rfl) (pa_cons (pv 4) (pa_cons (pv 3) (pa_cons pe_int pa_nil)))) ip_orB))))
  (pss_one (ps_ret (pe_lc (own := [("room", 5)]) (by rfl) nd (pi_range1 (by rfl) g.range (pa_cons (pe_ix (kix_seq (K := K)) (pv 0) pe_int (fun _ _ => rfl)) pa_nil)) (blkOk_by (own := [("room", 5)]) (N := ["machine", "rooms", "led", "steps", "found", "room", "changed", "other", "text", "sign", "to"]) (sc := defScope s_ranks) (by decide +kernel)) (fun _ _ _ _ _ => (pg_name (i := 5) nd rfl (by first | exact Or.inl rfl | exact Or.inr rfl))) (fun _ _ _ _ _ => pts_nil) (fun _ _ _ _ _ => (pe_dget2 hu1 (pv 4) (pv 5) pe_non ⟨by rfl, by rfl, by rfl, by rfl⟩))))))))))))), fun H B ds hp => ?_⟩
  obtain ⟨m, hm, hd, rfl⟩ := hp
  have h12 := hm.n2
  repeat walk_at "gm"
  refine ⟨⟨m, hm, hd, rfl⟩, fun d e => ?_⟩
  subst e
  repeat walk_at "gm"
  refine op_neP rfl rfl sh_nil sh_nil ?_
  rw [eqD_nil]
  refine ⟨_, rfl, tk_f rfl ?_⟩
  repeat walk_at "gm"
  refine st_asg ?_
  repeat walk_at "gm"
  refine ⟨⟨m, hm, rfl⟩, fun d e => ?_⟩
  rw [e m rfl]
  repeat walk_at "gm"
  refine st_asgF ?_
  refine ev_lcM (fun _ _ => .non) ([] : List Nat) (fun _ => .non) (by repeat walk_at "gm") (by repeat walk_at "gm") rfl ?_
  refine it_listG ?_
  repeat walk_at "gm"
  refine ⟨⟨m, hm, hd, rfl⟩, fun d e => ?_⟩
  subst e
  refine ⟨_, rfl, by decide, idx_map (α := Nat) (l := []) (fun _ => D.non), rfl, ?_, fun i x hx Ha => by simp at hx⟩
  repeat walk_at "gm"
  refine st_asgF ?_
  have hmt := hm.trim
  have htl := hmt.stL
  refine ev_lcM (fun _ s => stD s) m.trim.st (fun s => edD (s.1, s.2.2)) (by repeat walk_at "gm") (by repeat walk_at "gm") rfl ?_
  refine it_listG ?_
  repeat walk_at "gm"
  refine ⟨⟨m, hm, rfl⟩, fun d e => ?_⟩
  rw [e m rfl]
  repeat walk_at "gm"
  refine ⟨by rw [List.length_map]; omega, idx_map stD, rfl, ?_, fun i x hx Ha => by (repeat walk_at "gm"); exact ⟨rfl, rfl⟩⟩
  repeat walk_at "gm"
  refine st_asg ?_
  repeat walk_at "gm"
  have hul := m.use_len hm
  have uN : m.use.Nodup := m.use_pw.imp fun h => Nat.ne_of_lt h
  refine st_forG (fun _ x => iD x) m.use (fun q Γ => ∃ x, x.isOb = false ∧ Γ = [.dat m.d, .dat (iLs m.use), .dat (.lst []), .dat (.lst (m.trim.st.map fun s => edD (s.1, s.2.2))), .ob true (.dI (zeroD q)), x, .any, .any, .any, .any, .any]) ?_
  refine it_listG ?_
  repeat walk_at "gm"
  refine ⟨idx_map iD, ⟨.any, rfl, rfl⟩, fun q x r e Γ ⟨y, hy, hΓ⟩ => ?_, fun Γ ⟨y, hy, hΓ⟩ => ?_⟩
  · subst hΓ
    have hq : x ∉ q := fun z => by
      rw [e] at uN
      exact (List.nodup_append.mp uN).2.2 x z x List.mem_cons_self rfl
    have ql : q.length ≤ 12 := by
      have := congrArg List.length e
      rw [List.length_append] at this
      omega
    repeat walk_at "gm"
    refine st_dput ?_
    repeat walk_at "gm"
    refine ⟨_, rfl, ⟨_, _, rfl⟩, ?_⟩
    repeat walk_at "gm"
    refine ⟨_, _, _, rfl, rfl, by unfold zeroD; rw [List.length_map]; omega, ?_⟩
    rw [sI_zero hq]
    exact ⟨_, rfl, rfl⟩
  · subst hΓ
    refine st_freeze 4 rfl ?_
    repeat walk_at "gm"
    refine st_asg ?_
    repeat walk_at "gm"
    refine st_while (fun k Γ => ∃ c : Bool, Γ = [.dat m.d, .dat (iLs m.use), .dat (.lst []), .dat (.lst (m.trim.st.map fun s => edD (s.1, s.2.2))), .dat (.dI (zeroD m.use)), y, .dat (.bl c), .any, .any, .any, .any] ∧ k = if c = true then 1 else 0) 1 ⟨true, rfl, rfl⟩ ?_
    rintro k Γ ⟨c, rfl, rfl⟩
    repeat walk_at "gm"
    refine tk_b (fun hc => ?_) fun hc => ?_
    · subst hc
      repeat walk_at "gm"
      refine st_asg ?_
      repeat walk_at "gm"
      refine ⟨⟨m.use, [], 1, .inr rfl, by simp, rfl⟩, fun d e => ?_⟩
      subst e
      repeat walk_at "gm"
      refine st_aug rfl ?_
      repeat walk_at "gm"
      refine ⟨⟨m.use, m.trim.st.map fun s => (s.1, s.2.2), 0, .inl rfl, fun p hp => ?_, by rw [List.map_map]; rfl⟩, fun d e => ?_⟩
      · obtain ⟨s, hs, rfl⟩ := List.mem_map.mp hp
        have := (List.mem_filter.mp hs).2
        simp only [Bool.and_eq_true, decide_eq_true_eq] at this
        exact this
      · subst e
        refine ⟨rfl, op_orB rfl rfl ⟨by show 6 < 11; decide, 0, by decide, false, rfl, rfl⟩⟩
    · subst hc
      repeat walk_at "gm"
      refine ev_lcM (fun _ i => iD i) (List.range m.n) (fun i => zD (decide (i ∈ m.use))) (by repeat walk_at "gm") (by repeat walk_at "gm") (by show (!y.isOb && true) = true; rw [hy]; rfl) ?_
      repeat walk_at "gm"
      refine ⟨by omega, by rw [List.length_map, List.length_range]; omega, idx_map iD, rfl, ⟨_, rfl, (List.range m.n).map (fun i => decide (i ∈ m.use)), by rw [List.length_map, List.length_range]; omega, by rw [List.map_map]; rfl⟩, fun i x hx Ha => ?_⟩
      repeat walk_at "gm"
      refine ev_dget2 ?_
      repeat walk_at "gm"
      refine ⟨⟨_, rfl⟩, ?_⟩
      repeat walk_at "gm"
      refine ⟨_, _, _, rfl, rfl, rfl, ?_⟩
      rw [gI_zero']
      exact ⟨rfl, rfl⟩
end
end Gm
namespace Gm
open PySem PySem.Spec PyProof.Rows L2
local macro_rules | `(tactic| walk_at "gm") => `(tactic| first
  | (with_reducible refine st_seq ?_)
  | ((with_reducible show Tg _ (gName _) _ _ _); refine tg_nameG rfl ?_)
  | ((with_reducible show Tg _ (gTup _ _ _) _ _ _); refine tg_tup (by rfl) ?_)
  | (with_reducible refine tgs_cons ?_)
  | (with_reducible refine tgs_nil ?_)
  | (with_reducible refine tgin_name (by decide))
  | (with_reducible refine tgin_tup ?_)
  | (with_reducible refine tgsin_cons ?_ ?_ ?_ ?_)
  | (with_reducible exact tgsin_nil)
  | (with_reducible exact tgm_name)
  | (with_reducible refine tgm_tup ?_)
  | (with_reducible refine tgsm_cons ?_ ?_)
  | (with_reducible exact tgsm_nil)
  | (with_reducible refine ev_neg ?_)
  | ((with_reducible show ∃ i, Rz.d (D.int _) = Rz.d (D.int i) ∧ _); refine ⟨_, rfl, ?_⟩)
  | (with_reducible refine it_enumG ?_)
  | (with_reducible refine it_rngG ?_)
  | (with_reducible refine st_if ?_)
  | (with_reducible refine st_ret ?_)
  | (with_reducible refine st_retN ?_)
  | (with_reducible refine st_drop ?_)
  | (with_reducible refine st_next ?_)
  | (with_reducible refine st_cont ?_)
  | (with_reducible refine et_B ?_)
  | (with_reducible refine et_test ?_)
  | (with_reducible refine et_not ?_)
  | (with_reducible refine et_and ?_)
  | (with_reducible refine et_or ?_)
  | (with_reducible refine ev_andV ?_)
  | (with_reducible refine ev_orV ?_)
  | (with_reducible refine ev_notV ?_)
  | (with_reducible refine ev_if ?_)
  | (with_reducible refine ev_chain ?_)
  | (with_reducible refine ev_op' ?_)
  | (with_reducible refine ev_tupG ?_)
  | (with_reducible refine ev_lstG ?_)
  | (with_reducible refine ev_callG rs_nil rfl rfl ?_)
  | (with_reducible refine ev_cb ?_)
  | (with_reducible refine ev_bm ?_)
  | (with_reducible refine ev_bm0 ?_)
  | (with_reducible refine ev_m1 ?_)
  | (with_reducible refine ev_slice ?_)
  | (with_reducible refine eo_none ?_)
  | (with_reducible refine eo_some ?_)
  | (with_reducible refine ea_cons' ?_)
  | (with_reducible refine ea_nil ?_)
  | ((with_reducible show Ev _ (tVar _) _ _); refine ev_var rfl rfl ?_)
  | (with_reducible refine ev_int ?_)
  | (with_reducible refine ev_str ?_)
  | (with_reducible refine ev_bl ?_)
  | (with_reducible refine ev_non ?_)
  | ((with_reducible show Ev _ (tC (V.ty _)) _ _); refine ev_cx ?_)
  | ((with_reducible show ∃ b, Rz.d (D.bl _) = Rz.d (D.bl b) ∧ _); refine ⟨_, rfl, ?_⟩)
  | ((with_reducible show ∃ ds, unDs _ = some ds ∧ _); refine ⟨_, rfl, ?_⟩)
  | ((with_reducible show List.length _ ≤ 100000 ∧ _); refine and_ble rfl ?_)
  | ((with_reducible show Cb _ (rIsi _) _ _ _); refine cb_isT rfl rfl rfl (by decide) ?_)
  | ((with_reducible show Cb _ (fun xs H Q => ∃ x n, xs = [x] ∧ LenV _ x H n ∧ Q (.int n) H) _ _ _); refine cb_lenG rfl rfl ?_)
  | ((with_reducible show Op2 _ (orR rEq _) _ _ _ _); first | refine op_eqI rfl rfl ?_ | refine op_eqS rfl rfl ?_)
  | ((with_reducible show Op2 _ (orR rNe _) _ _ _ _); first | refine op_neI rfl rfl ?_ | refine op_neB rfl rfl ?_)
  | ((with_reducible show Op2 _ (rI0 _) _ _ _ _); first | refine op_cmpI rfl rfl ?_ | refine op_subI rfl rfl ?_)
  | ((with_reducible show Op2 _ (orR (rI0 _) _) _ _ _ _); refine op_addI rfl rfl ?_)
  | ((with_reducible show Op2 _ (fun x y H Q => y = V.non ∧ _) _ _ _ _); first | refine op_is rfl rfl ?_ | refine op_isnot rfl rfl ?_)
  | ((with_reducible show Op2 _ (fun x y H Q => ∃ (c : Nat) (z : Str), x = V.str ⟨#[c]⟩ ∧ _) _ _ _ _); refine op_inSign rfl rfl ?_)
  | ((with_reducible show Op2 _ (rIx _) _ _ _ _); refine op_ix rfl rfl rfl (fun _ z => by cases z) ?_)
  | (with_reducible refine ev_newN rfl ?_)
  | (with_reducible refine ev_newI ?_)
  | ((with_reducible show Cb _ (fun xs H Q => (∃ i, xs = [V.int i] ∧ _) ∨ _) _ _ _); refine cb_intB rfl ?_)
  | ((with_reducible show Op2 _ (rIn _ _) _ _ _ _); refine op_inL rfl rfl ?_)
  | (with_reducible refine it_listG ?_)
  | (with_reducible refine et_yes ?_)
  | ((with_reducible show ∃ ds, unD _ = some (D.lst ds) ∧ _); refine ⟨_, rfl, ?_⟩)
  | ((with_reducible show ∃ ds, unDs _ = some [D.lst ds] ∧ _); refine ⟨_, rfl, ?_⟩)
  | ((with_reducible show ∃ n, unDs _ = some [iD n] ∧ _); refine ⟨_, rfl, ?_⟩)
  | ((with_reducible show (∃ d, vw _ _ = some d ∧ tyD _ d) ∧ _); refine ⟨⟨_, rfl, rfl⟩, ?_⟩)
  | ((with_reducible show Mt _ rAppend (Rz.o _) [Rz.d _] _ _); refine mt_app rfl ?_ ?_)
  | (with_reducible refine it_enumS ?_)
  | ((with_reducible show ∃ s, unDs _ = some [D.str s] ∧ _); refine ⟨_, rfl, ?_⟩))
abbrev s_look_at_word : Stmt := topS 64
theorem sc_look_at_word : FnScope ["text", "at", "sign"] ["text"] (defScope s_look_at_word) := ⟨rfl, rfl, rfl, by decide +kernel, rfl, by decide +kernel, by decide +kernel⟩
abbrev s_alone_at : Stmt := topS 65
theorem sc_alone_at : FnScope ["machine", "rooms", "room"] ["machine", "rooms"] (defScope s_alone_at) := ⟨rfl, rfl, rfl, by decide +kernel, rfl, by decide +kernel, by decide +kernel⟩
abbrev s_moved : Stmt := topS 66
theorem sc_moved : FnScope ["machine", "vector", "sign", "later", "room", "letter", "to"] ["machine", "vector", "sign"] (defScope s_moved) := ⟨rfl, rfl, rfl, by decide +kernel, rfl, by decide +kernel, by decide +kernel⟩
abbrev s_moved_by : Stmt := topS 67
theorem sc_moved_by : FnScope ["machine", "vector", "text", "sign"] ["machine", "vector", "text"] (defScope s_moved_by) := ⟨rfl, rfl, rfl, by decide +kernel, rfl, by decide +kernel, by decide +kernel⟩
abbrev s_sum_at : Stmt := topS 68
theorem sc_sum_at : FnScope ["vector", "rooms", "room"] ["vector", "rooms"] (defScope s_sum_at) := ⟨rfl, rfl, rfl, by decide +kernel, rfl, by decide +kernel, by decide +kernel⟩
abbrev s_ways : Stmt := topS 69
theorem sc_ways : FnScope ["machine", "text", "first", "last", "firsts", "lasts"] ["machine", "text", "first", "last"] (defScope s_ways) := ⟨rfl, rfl, rfl, by decide +kernel, rfl, by decide +kernel, by decide +kernel⟩
abbrev pr_look_at_word (ds : List D) : Prop := ∃ ws : List Nat, ws.length ≤ 12 ∧ (∀ c ∈ ws, isL c) ∧ ds = [.str (mkS ws)]
abbrev po_look_at_word (ds : List D) (d : D) : Prop := d = .non
abbrev K_look_at_word (P : Program) (w : World) (K : PySem.W.Frag) (mg : Str → Option Value) (base : Heap) (T : List NdefX.NTab) : Prop := KnR P w K mg base T "look_at_word" 2 [] pr_look_at_word po_look_at_word
abbrev pr_alone_at (ds : List D) : Prop := ∃ (m : Mach) (rs : List Nat), m.Ok ∧ ds = [m.d, iLs rs]
abbrev po_alone_at (ds : List D) (d : D) : Prop := ∀ (m : Mach) (rs : List Nat), ds = [m.d, iLs rs] → d = vD m.n (ind rs)
abbrev K_alone_at (P : Program) (w : World) (K : PySem.W.Frag) (mg : Str → Option Value) (base : Heap) (T : List NdefX.NTab) : Prop := KnR P w K mg base T "alone_at" 1 [] pr_alone_at po_alone_at
abbrev pr_moved (ds : List D) : Prop := ∃ (m : Mach) (v : Nat → Nat) (c : Nat), m.Ok ∧ ds = [m.d, vD m.n v, sg c]
abbrev po_moved (ds : List D) (d : D) : Prop := ∀ (m : Mach) (v : Nat → Nat) (c : Nat), m.Ok → ds = [m.d, vD m.n v, sg c] → d = vD m.n (mv m.st v c)
abbrev K_moved (P : Program) (w : World) (K : PySem.W.Frag) (mg : Str → Option Value) (base : Heap) (T : List NdefX.NTab) : Prop := KnR P w K mg base T "moved" 1 [] pr_moved po_moved
abbrev pr_moved_by (ds : List D) : Prop := ∃ (m : Mach) (v : Nat → Nat) (ws : List Nat), m.Ok ∧ ws.length ≤ 12 ∧ ds = [m.d, vD m.n v, .str (mkS ws)]
abbrev po_moved_by (ds : List D) (d : D) : Prop := ∀ (m : Mach) (v : Nat → Nat) (ws : List Nat), m.Ok → ds = [m.d, vD m.n v, .str (mkS ws)] → d = vD m.n (ws.foldl (mv m.st) v)
abbrev K_moved_by (P : Program) (w : World) (K : PySem.W.Frag) (mg : Str → Option Value) (base : Heap) (T : List NdefX.NTab) : Prop := KnR P w K mg base T "moved_by" 2 [] pr_moved_by po_moved_by
abbrev pr_sum_at (ds : List D) : Prop := ∃ (n : Nat) (v : Nat → Nat) (rs : List Nat), n ≤ 12 ∧ rs.length ≤ 12 ∧ (∀ r ∈ rs, r < n) ∧ ds = [vD n v, iLs rs]
abbrev po_sum_at (ds : List D) (d : D) : Prop := ∀ (n : Nat) (v : Nat → Nat) (rs : List Nat), (∀ r ∈ rs, r < n) → ds = [vD n v, iLs rs] → d = iD (rs.map v).sum
abbrev K_sum_at (P : Program) (w : World) (K : PySem.W.Frag) (mg : Str → Option Value) (base : Heap) (T : List NdefX.NTab) : Prop := KnR P w K mg base T "sum_at" 1 [] pr_sum_at po_sum_at
abbrev pr_ways (ds : List D) : Prop := ∃ (m : Mach) (ws : List Nat), m.Ok ∧ ws.length ≤ 12 ∧ (∀ c ∈ ws, isL c) ∧ ds = [m.d, .str (mkS ws), .non, .non]
abbrev po_ways (ds : List D) (d : D) : Prop := ∀ (m : Mach) (ws : List Nat), ds = [m.d, .str (mkS ws), .non, .non] → d = iD (m.ways ws)
abbrev K_ways (P : Program) (w : World) (K : PySem.W.Frag) (mg : Str → Option Value) (base : Heap) (T : List NdefX.NTab) : Prop := KnR P w K mg base T "ways" 6 [.non, .non] pr_ways po_ways
section
variable {P : Program} {w : World} {K : PySem.W.Frag} {mg : Str → Option Value} {base : Heap} {T : List NdefX.NTab} {f : Addr} {fd : FuncData}
theorem ok_look_at_word (F : FnP K "look_at_word" "look_at_word" s_look_at_word [] f fd) (g : Bl mg) (c : Cn mg) (h_is_sign : K_is_sign P w K mg base T) : FnOk P w K mg base CX0 2 f fd ["text"] (spR w T pr_look_at_word po_look_at_word) := by
  refine fnR F sc_look_at_word ?_ fun cdv A outer s H E hr => ?_
  · rintro ds h
    (repeat (obtain ⟨_, h⟩ := h))
    first
      | rfl
      | (subst h; rfl)
  have hu := hr.units
  have hu1 := hu_of hr
  have nd := sc_look_at_word.nd
  refine ⟨_, (pss_cons (ps_if (pt_not (pt_val (pe_callB (kcall_isi (K := K)) (by rfl) g.isinstance boot_isinstance (pa_cons (pv 0) (pa_cons (pe_bltn (v := .ty "str") (u := .type "str") (by rfl) g.str boot_str rfl) pa_nil))))) (pss_one ps_never) pss_nil)
  (pss_one (ps_for PassesOwn.never rfl (pi_enumS (by rfl) g.enumerate (pa_cons (pv 0) pa_nil)) (kpg_tup (K := K) (n := 2) rfl (pgs_cons (pg_name (i := 1) nd rfl (by first | exact Or.inl rfl | exact Or.inr rfl)) (pgs_cons (pg_name (i := 2) nd rfl (by first | exact Or.inl rfl | exact Or.inr rfl)) pgs_nil))) (pss_one (ps_if (PW.pt (pw_or (pt_cmpR (kop_EQ (K := K) hu) (pv 1) (pe_kc (by rfl) c.MOST_WORD) (nomark _)) (pw_or1 (pt_not (pt_val (pe_kn h_is_sign (hr.mono (by decide)) (by rfl) (pa_cons (pv 2) pa_nil))))))) (pss_one ps_never) pss_nil))))), fun H B ds hp => ?_⟩
  obtain ⟨ws, hl, hc, rfl⟩ := hp
  repeat walk_at "gm"
  refine tk_f (by rfl) ?_
  repeat walk_at "gm"
  refine st_forG (fun i c => .tup [iD i, sg c]) ws (fun q Γ => ∃ a b, Γ = [.dat (.str (mkS ws)), a, b]) ?_
  repeat walk_at "gm"
  refine ⟨idx_enumS ws, ⟨_, _, rfl⟩, fun q x r e Γ ⟨a, b, hΓ⟩ => ?_, fun Γ _ => rfl⟩
  subst hΓ
  have hx := hc x (by rw [e]; simp)
  have hq : q.length < 12 := by rw [e, List.length_append, List.length_cons] at hl; omega
  repeat walk_at "gm"
  refine tk_f (decide_eq_false (by omega)) ?_
  repeat walk_at "gm"
  refine ⟨⟨x, hx, rfl⟩, fun d e => ?_⟩
  subst e
  repeat walk_at "gm"
  refine tk_f rfl ?_
  repeat walk_at "gm"
  exact ⟨_, _, rfl⟩
theorem ok_alone_at (F : FnP K "alone_at" "alone_at" s_alone_at [] f fd) (g : Bl mg) (c : Cn mg)  : FnOk P w K mg base CX0 1 f fd ["machine", "rooms"] (spR w T pr_alone_at po_alone_at) := by
  refine fnR F sc_alone_at ?_ fun cdv A outer s H E hr => ?_
  · rintro ds h
    (repeat (obtain ⟨_, h⟩ := h))
    first
      | rfl
      | (subst h; rfl)
  have hu := hr.units
  have hu1 := hu_of hr
  have nd := sc_alone_at.nd
  refine ⟨_, (pss_one (ps_ret (pe_lc (own := [("room", 2)]) (by rfl) nd (pi_range1 (by rfl) g.range (pa_cons (pe_ix (kix_seq (K := K)) (pv 0) pe_int (fun _ _ => rfl)) pa_nil)) (blkOk_by (own := [("room", 2)]) (N := ["machine", "rooms", "room"]) (sc := defScope s_alone_at) (by decide +kernel)) (fun _ _ _ _ _ => (pg_name (i := 2) nd rfl (by first | exact Or.inl rfl | exact Or.inr rfl))) (fun _ _ _ _ _ => pts_nil) (fun _ _ _ _ _ => (pe_callTy call_int1 (by rfl) g.int boot_int (pa_cons (pe_cmpR (kop_in (K := K)) (pv 2) (pv 1) (by rfl)) pa_nil)))))), fun H B ds hp => ?_⟩
  obtain ⟨m, rs, hm, rfl⟩ := hp
  have h12 := hm.n2
  repeat walk_at "gm"
  refine ev_lcM (fun _ i => iD i) (List.range m.n) (fun i => iD (ind rs i)) (by repeat walk_at "gm") (by repeat walk_at "gm") rfl ?_
  repeat walk_at "gm"
  refine ⟨by omega, by rw [List.length_map, List.length_range]; omega, idx_map iD, rfl, ⟨_, rfl, fun m' rs' e => ?_⟩, fun i x hx Ha => ?_⟩
  · simp only [List.cons.injEq, and_true] at e
    rw [← Mach.d_inj e.1, ← iLs_inj e.2]
    unfold vD iLs
    rw [List.map_map]
    rfl
  · repeat walk_at "gm"
    refine ⟨?_, rfl⟩
    unfold ind
    by_cases h : x ∈ rs
    · simp only [h, decide_true, if_true]; rfl
    · simp only [h, decide_false, if_false]; rfl
theorem ok_moved (F : FnP K "moved" "moved" s_moved [] f fd) (g : Bl mg) (c : Cn mg)  : FnOk P w K mg base CX0 1 f fd ["machine", "vector", "sign"] (spR w T pr_moved po_moved) := by
  refine fnR F sc_moved ?_ fun cdv A outer s H E hr => ?_
  · rintro ds h
    (repeat (obtain ⟨_, h⟩ := h))
    first
      | rfl
      | (subst h; rfl)
  have hu := hr.units
  have hu1 := hu_of hr
  have nd := sc_moved.nd
  refine ⟨_, (pss_cons (ps_set (i := 3) nd rfl (by first | exact Or.inl rfl | exact Or.inr rfl) (pe_op op_MUL (pe_lst (pa_cons pe_int pa_nil)) (pe_ix (kix_seq (K := K)) (pv 0) pe_int (fun _ _ => rfl))))
  (pss_cons (ps_for PassesOwn.never rfl (kpi_seq (K := K) (pe_ix (kix_seq (K := K)) (pv 0) pe_int (fun _ _ => rfl))) (kpg_tup (K := K) (n := 3) rfl (pgs_cons (pg_name (i := 4) nd rfl (by first | exact Or.inl rfl | exact Or.inr rfl)) (pgs_cons (pg_name (i := 5) nd rfl (by first | exact Or.inl rfl | exact Or.inr rfl)) (pgs_cons (pg_name (i := 6) nd rfl (by first | exact Or.inl rfl | exact Or.inr rfl)) pgs_nil)))) (pss_one (ps_if (pt_cmpR (kop_EQ (K := K) hu) (pv 5) (pv 2) (nomark _)) (pss_one (ps_augS (pv 3) (pv 6) get_list (pe_ix (kix_seq (K := K)) (pv 1) (pv 4) (fun _ _ => rfl)) ip_add set_list)) pss_nil)))
  (pss_one (ps_ret (pv 3))))), fun H B ds hp => ?_⟩
  obtain ⟨m, v, c, hm, rfl⟩ := hp
  have h12 := hm.n2
  repeat walk_at "gm"
  refine st_asg ?_
  repeat walk_at "gm"
  refine op_repL (d := .int 0) (n := m.n) rfl rfl (by omega) ?_
  repeat walk_at "gm"
  refine st_forG (fun _ s => stD s) m.st (fun q Γ => ∃ a b e3, Γ = [.dat m.d, .dat (vD m.n v), .dat (sg c), .ob true (vD m.n (mv q v c)), a, b, e3]) ?_
  refine it_listG ?_
  repeat walk_at "gm"
  refine ⟨idx_map stD, ⟨_, _, _, by rw [show mv [] v c = fun _ => 0 from rfl, ← vD_zero]; rfl⟩, fun q x r e Γ ⟨a, b, e3, hΓ⟩ => ?_, fun Γ ⟨a, b, e3, hΓ⟩ => ?_⟩
  · subst hΓ
    obtain ⟨x1, x2, x3⟩ := hm.stN x (by rw [e]; simp)
    repeat walk_at "gm"
    rw [eqS1]
    refine tk_b (fun hb => ?_) fun hb => ?_
    · refine st_augL ⟨_, _, rfl⟩ ?_
      repeat walk_at "gm"
      refine ⟨x.2.2, true, ((List.range m.n).map (mv q v c)).map iD, (mv q v c x.2.2 : Nat), rfl, rfl, by rw [List.getElem?_map, vD_get _ x3]; rfl, ?_⟩
      repeat walk_at "gm"
      refine op_ix rfl rfl (itD_map (vD_get v x1)) (fun _ z => by cases z) ⟨(v x.1 : Nat), rfl, rfl, ?_⟩
      rw [iD_add, vD_set]
      have e5 : ((List.range m.n).map fun j => if j = x.2.2 then mv q v c x.2.2 + v x.1 else mv q v c j) = (List.range m.n).map (mv (q ++ [x]) v c) := List.map_congr_left fun j _ => by
        rw [mv_snoc]
        have hb' : x.2.1 = c := by simpa using hb
        by_cases h : j = x.2.2
        · subst h
          rw [if_pos rfl, if_pos ⟨hb', rfl⟩]
        · rw [if_neg h, if_neg fun z => h z.2.symm]
      rw [e5]
      exact ⟨_, _, _, rfl⟩
    · repeat walk_at "gm"
      have e5 : vD m.n (mv q v c) = vD m.n (mv (q ++ [x]) v c) := vD_ext fun j _ => by
        rw [mv_snoc, if_neg fun z => by
          rw [z.1] at hb
          simp at hb]
      exact ⟨_, _, _, by rw [← e5]; rfl⟩
  · subst hΓ
    refine st_freeze 3 rfl ?_
    repeat walk_at "gm"
    refine ⟨_, rfl, fun m' v' c' hm' e => ?_⟩
    simp only [List.cons.injEq, and_true] at e
    obtain ⟨e1, e2, e3⟩ := e
    have e1 := Mach.d_inj e1
    subst e1
    rw [sg_inj e3]
    rw [mv_ext hm (vD_inj e2)]
theorem ok_moved_by (F : FnP K "moved_by" "moved_by" s_moved_by [] f fd) (g : Bl mg) (c : Cn mg) (h_moved : K_moved P w K mg base T) : FnOk P w K mg base CX0 2 f fd ["machine", "vector", "text"] (spR w T pr_moved_by po_moved_by) := by
  refine fnR F sc_moved_by ?_ fun cdv A outer s H E hr => ?_
  · rintro ds h
    (repeat (obtain ⟨_, h⟩ := h))
    first
      | rfl
      | (subst h; rfl)
  have hu := hr.units
  have hu1 := hu_of hr
  have nd := sc_moved_by.nd
  refine ⟨_, (pss_cons (ps_for PassesOwn.never rfl (kpi_seq (K := K) (pv 2)) (pg_name (i := 3) nd rfl (by first | exact Or.inl rfl | exact Or.inr rfl)) (pss_one (ps_set (i := 1) nd rfl (by first | exact Or.inl rfl | exact Or.inr rfl) (pe_kn h_moved (hr.mono (by decide)) (by rfl) (pa_cons (pv 0) (pa_cons (pv 1) (pa_cons (pv 3) pa_nil)))))))
  (pss_one (ps_ret (pv 1)))), fun H B ds hp => ?_⟩
  obtain ⟨m, v, ws, hm, hl, rfl⟩ := hp
  repeat walk_at "gm"
  refine st_forG (fun _ c => sg c) ws (fun q Γ => ∃ a, Γ = [.dat m.d, .dat (vD m.n (q.foldl (mv m.st) v)), .dat (.str (mkS ws)), a]) ?_
  refine it_strG ?_
  repeat walk_at "gm"
  refine ⟨_, rfl, idx_str ws, ⟨_, rfl⟩, fun q x r e Γ ⟨a, hΓ⟩ => ?_, fun Γ ⟨a, hΓ⟩ => ?_⟩
  · subst hΓ
    repeat walk_at "gm"
    refine st_asg ?_
    repeat walk_at "gm"
    refine ⟨⟨m, _, x, hm, rfl⟩, fun d e => ?_⟩
    rw [e m _ x hm rfl]
    repeat walk_at "gm"
    exact ⟨_, by rw [List.foldl_append]; rfl⟩
  · subst hΓ
    repeat walk_at "gm"
    refine ⟨_, rfl, fun m' v' ws' hm' e => ?_⟩
    simp only [List.cons.injEq, and_true, D.str.injEq] at e
    obtain ⟨e1, e2, e3⟩ := e
    have e1 := Mach.d_inj e1
    subst e1
    rw [mkS_inj e3]
    exact fold_ext hm (vD_inj e2) ws'
theorem ok_sum_at (F : FnP K "sum_at" "sum_at" s_sum_at [] f fd) (g : Bl mg) (c : Cn mg)  : FnOk P w K mg base CX0 1 f fd ["vector", "rooms"] (spR w T pr_sum_at po_sum_at) := by
  refine fnR F sc_sum_at ?_ fun cdv A outer s H E hr => ?_
  · rintro ds h
    (repeat (obtain ⟨_, h⟩ := h))
    first
      | rfl
      | (subst h; rfl)
  have hu := hr.units
  have hu1 := hu_of hr
  have nd := sc_sum_at.nd
  refine ⟨_, (pss_one (ps_ret (pe_callBK (kcrk_sum (K := K) rfl) (by rfl) g.sum boot_sum (pa_cons (pe_lc (own := [("room", 2)]) (by rfl) nd (kpi_seq (K := K) (pv 1)) (blkOk_by (own := [("room", 2)]) (N := ["vector", "rooms", "room"]) (sc := defScope s_sum_at) (by decide +kernel)) (fun _ _ _ _ _ => (pg_name (i := 2) nd rfl (by first | exact Or.inl rfl | exact Or.inr rfl))) (fun _ _ _ _ _ => pts_nil) (fun _ _ _ _ _ => (pe_ix (kix_seq (K := K)) (pv 0) (pv 2) (fun _ _ => rfl)))) pa_nil) (pk_cons pe_int pk_nil)))), fun H B ds hp => ?_⟩
  obtain ⟨n, v, rs, hn, hl, hr, rfl⟩ := hp
  repeat walk_at "gm"
  refine ev_kw (r1 := .d .non) (d := 0) ?_
  repeat walk_at "gm"
  refine ev_lcM (fun _ r => iD r) rs (fun r => iD (v r)) (by repeat walk_at "gm") (by repeat walk_at "gm") rfl ?_
  refine it_listG ?_
  repeat walk_at "gm"
  refine ⟨by rw [List.length_map]; omega, idx_map iD, rfl, ?_, fun i x hx Ha => ?_⟩
  · repeat walk_at "gm"
    refine ⟨_, _, iD (rs.map v).sum, rfl, rfl, ⟨.lst (((rs.map v).map fun (n : Nat) => (n : Int)).map D.int), by rw [List.map_map, List.map_map]; rfl, ?_⟩, ?_⟩
    · have := @kw_sum K w ((rs.map v).map fun (n : Nat) => (n : Int))
      rw [sum_cast] at this
      exact this
    · refine ⟨_, rfl, fun n' v' rs' hr' e => ?_⟩
      simp only [List.cons.injEq, and_true] at e
      obtain ⟨e1, e2⟩ := e
      have := vD_len e1
      subst this
      have := iLs_inj e2
      subst this
      rw [List.map_congr_left fun r h => vD_inj e1 r (hr r h)]
  · have hxr := hr x (List.mem_of_getElem? hx)
    repeat walk_at "gm"
    exact op_ix rfl rfl (itD_map (vD_get v hxr)) (fun _ z => by cases z) ⟨rfl, rfl⟩
theorem ok_ways (F : FnP K "ways" "ways" s_ways [.non, .non] f fd) (g : Bl mg) (c : Cn mg) (h_look_at : K_look_at P w K mg base T) (h_look_at_word : K_look_at_word P w K mg base T) (h_look_at_room : K_look_at_room P w K mg base T) (h_sum_at : K_sum_at P w K mg base T) (h_moved_by : K_moved_by P w K mg base T) (h_alone_at : K_alone_at P w K mg base T) : FnOk P w K mg base CX0 6 f fd ["machine", "text", "first", "last"] (spR w T pr_ways po_ways) := by
  refine fnR F sc_ways ?_ fun cdv A outer s H E hr => ?_
  · rintro ds h
    (repeat (obtain ⟨_, h⟩ := h))
    first
      | rfl
      | (subst h; rfl)
  have hu := hr.units
  have hu1 := hu_of hr
  have nd := sc_ways.nd
  refine ⟨_, (pss_cons (ps_expr (pe_kn h_look_at (hr.mono (by decide)) (by rfl) (pa_cons (pv 0) pa_nil)))
  (pss_cons (ps_expr (pe_kn h_look_at_word (hr.mono (by decide)) (by rfl) (pa_cons (pv 1) pa_nil)))
  (pss_cons (ps_set (i := 4) nd rfl (by first | exact Or.inl rfl | exact Or.inr rfl) (pe_ix (kix_seq (K := K)) (pv 0) pe_int (fun _ _ => rfl)))
  (pss_cons (ps_set (i := 5) nd rfl (by first | exact Or.inl rfl | exact Or.inr rfl) (pe_ix (kix_seq (K := K)) (pv 0) pe_int (fun _ _ => rfl)))
  (pss_cons (ps_if (pt_cmpR op_notN (pv 2) pe_non (nomark _)) (pss_cons (ps_expr (pe_kn h_look_at_room (hr.mono (by decide)) (by rfl) (pa_cons (pv 0) (pa_cons (pv 2) pa_nil))))
  (pss_one (ps_set (i := 4) nd rfl (by first | exact Or.inl rfl | exact Or.inr rfl) (pe_lst (pa_cons (pv 2) pa_nil))))) pss_nil)
  (pss_cons (ps_if (pt_cmpR op_notN (pv 3) pe_non (nomark _)) (pss_cons (ps_expr (pe_kn h_look_at_room (hr.mono (by decide)) (by rfl) (pa_cons (pv 0) (pa_cons (pv 3) pa_nil))))
  (pss_one (ps_set (i := 5) nd rfl (by first | exact Or.inl rfl | exact Or.inr rfl) (pe_lst (pa_cons (pv 3) pa_nil))))) pss_nil)
  (pss_one (ps_ret (pe_kn h_sum_at (hr.mono (by decide)) (by rfl) (pa_cons (pe_kn h_moved_by (hr.mono (by decide)) (by rfl) (pa_cons (pv 0) (pa_cons (pe_kn h_alone_at (hr.mono (by decide)) (by rfl) (pa_cons (pv 0) (pa_cons (pv 4) pa_nil))) (pa_cons (pv 1) pa_nil)))) (pa_cons (pv 5) pa_nil))))))))))), fun H B ds hp => ?_⟩
  obtain ⟨m, ws, hm, hl, hc, rfl⟩ := hp
  have h12 := hm.n2
  have lsl : m.ls.length ≤ 12 := nodup_len 12 _ (hm.lsS.imp fun h => Nat.ne_of_lt h) fun r hr => Nat.lt_of_lt_of_le (hm.lsN r hr) h12
  repeat walk_at "gm"
  refine ⟨⟨m, hm, rfl⟩, fun d e => ?_⟩
  repeat walk_at "gm"
  refine ⟨⟨ws, hl, hc, rfl⟩, fun d e => ?_⟩
  repeat walk_at "gm"
  refine st_asg ?_
  repeat walk_at "gm"
  refine st_asg ?_
  repeat walk_at "gm"
  refine tk_f (by rfl) ?_
  repeat walk_at "gm"
  refine tk_f (by rfl) ?_
  repeat walk_at "gm"
  refine ⟨⟨m, m.fs, hm, rfl⟩, fun d e => ?_⟩
  rw [e m m.fs rfl]
  repeat walk_at "gm"
  refine ⟨⟨m, _, ws, hm, hl, rfl⟩, fun d e => ?_⟩
  rw [e m _ ws hm rfl]
  repeat walk_at "gm"
  refine ⟨⟨m.n, _, m.ls, h12, lsl, hm.lsN, rfl⟩, fun d e => ?_⟩
  rw [e m.n _ m.ls hm.lsN rfl]
  refine ⟨_, rfl, fun m' ws' e => ?_⟩
  simp only [List.cons.injEq, and_true, D.str.injEq] at e
  obtain ⟨e1, e2⟩ := e
  rw [← Mach.d_inj e1, ← mkS_inj e2]
  rfl
end
end Gm
namespace Gm
open PySem PySem.Spec PyProof.Rows L2
local macro_rules | `(tactic| walk_at "gm") => `(tactic| first
  | (with_reducible refine st_seq ?_)
  | ((with_reducible show Tg _ (gName _) _ _ _); refine tg_nameG rfl ?_)
  | ((with_reducible show Tg _ (gTup _ _ _) _ _ _); refine tg_tup (by rfl) ?_)
  | (with_reducible refine tgs_cons ?_)
  | (with_reducible refine tgs_nil ?_)
  | (with_reducible refine tgin_name (by decide))
  | (with_reducible refine tgin_tup ?_)
  | (with_reducible refine tgsin_cons ?_ ?_ ?_ ?_)
  | (with_reducible exact tgsin_nil)
  | (with_reducible exact tgm_name)
  | (with_reducible refine tgm_tup ?_)
  | (with_reducible refine tgsm_cons ?_ ?_)
  | (with_reducible exact tgsm_nil)
  | (with_reducible refine ev_neg ?_)
  | ((with_reducible show ∃ i, Rz.d (D.int _) = Rz.d (D.int i) ∧ _); refine ⟨_, rfl, ?_⟩)
  | (with_reducible refine it_enumG ?_)
  | (with_reducible refine it_rngG ?_)
  | (with_reducible refine st_if ?_)
  | (with_reducible refine st_ret ?_)
  | (with_reducible refine st_retN ?_)
  | (with_reducible refine st_drop ?_)
  | (with_reducible refine st_next ?_)
  | (with_reducible refine st_cont ?_)
  | (with_reducible refine et_B ?_)
  | (with_reducible refine et_test ?_)
  | (with_reducible refine et_not ?_)
  | (with_reducible refine et_and ?_)
  | (with_reducible refine et_or ?_)
  | (with_reducible refine ev_andV ?_)
  | (with_reducible refine ev_orV ?_)
  | (with_reducible refine ev_notV ?_)
  | (with_reducible refine ev_if ?_)
  | (with_reducible refine ev_chain ?_)
  | (with_reducible refine ev_op' ?_)
  | (with_reducible refine ev_tupG ?_)
  | (with_reducible refine ev_lstG ?_)
  | (with_reducible refine ev_callG rs_nil rfl rfl ?_)
  | (with_reducible refine ev_cb ?_)
  | (with_reducible refine ev_bm ?_)
  | (with_reducible refine ev_bm0 ?_)
  | (with_reducible refine ev_m1 ?_)
  | (with_reducible refine ev_slice ?_)
  | (with_reducible refine eo_none ?_)
  | (with_reducible refine eo_some ?_)
  | (with_reducible refine ea_cons' ?_)
  | (with_reducible refine ea_nil ?_)
  | ((with_reducible show Ev _ (tVar _) _ _); refine ev_var rfl rfl ?_)
  | (with_reducible refine ev_int ?_)
  | (with_reducible refine ev_str ?_)
  | (with_reducible refine ev_bl ?_)
  | (with_reducible refine ev_non ?_)
  | ((with_reducible show Ev _ (tC (V.ty _)) _ _); refine ev_cx ?_)
  | ((with_reducible show ∃ b, Rz.d (D.bl _) = Rz.d (D.bl b) ∧ _); refine ⟨_, rfl, ?_⟩)
  | ((with_reducible show ∃ ds, unDs _ = some ds ∧ _); refine ⟨_, rfl, ?_⟩)
  | ((with_reducible show List.length _ ≤ 100000 ∧ _); refine and_ble rfl ?_)
  | ((with_reducible show Cb _ (rIsi _) _ _ _); refine cb_isT rfl rfl rfl (by decide) ?_)
  | ((with_reducible show Cb _ (fun xs H Q => ∃ x n, xs = [x] ∧ LenV _ x H n ∧ Q (.int n) H) _ _ _); refine cb_lenG rfl rfl ?_)
  | ((with_reducible show Op2 _ (orR rEq _) _ _ _ _); first | refine op_eqI rfl rfl ?_ | refine op_eqS rfl rfl ?_)
  | ((with_reducible show Op2 _ (orR rNe _) _ _ _ _); first | refine op_neI rfl rfl ?_ | refine op_neB rfl rfl ?_)
  | ((with_reducible show Op2 _ (rI0 _) _ _ _ _); first | refine op_cmpI rfl rfl ?_ | refine op_subI rfl rfl ?_)
  | ((with_reducible show Op2 _ (orR (rI0 _) _) _ _ _ _); refine op_addI rfl rfl ?_)
  | ((with_reducible show Op2 _ (fun x y H Q => y = V.non ∧ _) _ _ _ _); first | refine op_is rfl rfl ?_ | refine op_isnot rfl rfl ?_)
  | ((with_reducible show Op2 _ (fun x y H Q => ∃ (c : Nat) (z : Str), x = V.str ⟨#[c]⟩ ∧ _) _ _ _ _); refine op_inSign rfl rfl ?_)
  | ((with_reducible show Op2 _ (rIx _) _ _ _ _); refine op_ix rfl rfl rfl (fun _ z => by cases z) ?_)
  | (with_reducible refine ev_newN rfl ?_)
  | (with_reducible refine ev_newI ?_)
  | ((with_reducible show Cb _ (fun xs H Q => (∃ i, xs = [V.int i] ∧ _) ∨ _) _ _ _); refine cb_intB rfl ?_)
  | ((with_reducible show Op2 _ (rIn _ _) _ _ _ _); refine op_inL rfl rfl ?_)
  | (with_reducible refine it_listG ?_)
  | (with_reducible refine et_yes ?_)
  | ((with_reducible show ∃ ds, unD _ = some (D.lst ds) ∧ _); refine ⟨_, rfl, ?_⟩)
  | ((with_reducible show ∃ ds, unDs _ = some [D.lst ds] ∧ _); refine ⟨_, rfl, ?_⟩)
  | ((with_reducible show ∃ n, unDs _ = some [iD n] ∧ _); refine ⟨_, rfl, ?_⟩)
  | ((with_reducible show (∃ d, vw _ _ = some d ∧ tyD _ d) ∧ _); refine ⟨⟨_, rfl, rfl⟩, ?_⟩)
  | ((with_reducible show Mt _ rAppend (Rz.o _) [Rz.d _] _ _); refine mt_app rfl ?_ ?_)
  | (with_reducible refine it_enumS ?_)
  | ((with_reducible show ∃ s, unDs _ = some [D.str s] ∧ _); refine ⟨_, rfl, ?_⟩))
abbrev s_both_signs : Stmt := topS 51
theorem sc_both_signs : FnScope ["one", "other"] ["one", "other"] (defScope s_both_signs) := ⟨rfl, rfl, rfl, by decide +kernel, rfl, by decide +kernel, by decide +kernel⟩
abbrev s_is_last : Stmt := topS 52
theorem sc_is_last : FnScope ["machine", "rooms", "room"] ["machine", "rooms"] (defScope s_is_last) := ⟨rfl, rfl, rfl, by decide +kernel, rfl, by decide +kernel, by decide +kernel⟩
abbrev s_is_parting : Stmt := topS 53
theorem sc_is_parting : FnScope ["one", "other", "pair"] ["one", "other", "pair"] (defScope s_is_parting) := ⟨rfl, rfl, rfl, by decide +kernel, rfl, by decide +kernel, by decide +kernel⟩
abbrev s_is_set_text : Stmt := topS 57
theorem sc_is_set_text : FnScope ["machine", "thing", "sign"] ["machine", "thing"] (defScope s_is_set_text) := ⟨rfl, rfl, rfl, by decide +kernel, rfl, by decide +kernel, by decide +kernel⟩
abbrev s_is_pair : Stmt := topS 58
theorem sc_is_pair : FnScope ["one", "other", "thing"] ["one", "other", "thing"] (defScope s_is_pair) := ⟨rfl, rfl, rfl, by decide +kernel, rfl, by decide +kernel, by decide +kernel⟩
abbrev s_rooms_of : Stmt := topS 59
theorem sc_rooms_of : FnScope ["text", "room", "sign"] ["text"] (defScope s_rooms_of) := ⟨rfl, rfl, rfl, by decide +kernel, rfl, by decide +kernel, by decide +kernel⟩
abbrev s_led_text_sameness : Stmt := topS 60
theorem sc_led_text_sameness : FnScope ["machine", "text", "sign"] ["machine", "text", "sign"] (defScope s_led_text_sameness) := ⟨rfl, rfl, rfl, by decide +kernel, rfl, by decide +kernel, by decide +kernel⟩
abbrev pr_both_signs (ds : List D) : Prop := ∃ a b : Mach, a.Ok ∧ b.Ok ∧ ds = [a.d, b.d]
abbrev po_both_signs (ds : List D) (d : D) : Prop := ∀ a b : Mach, ds = [a.d, b.d] → d = .lst ((bsig a b).map sg)
abbrev K_both_signs (P : Program) (w : World) (K : PySem.W.Frag) (mg : Str → Option Value) (base : Heap) (T : List NdefX.NTab) : Prop := KnR P w K mg base T "both_signs" 2 [] pr_both_signs po_both_signs
abbrev pr_is_last (ds : List D) : Prop := ∃ (m : Mach) (rs : List Nat) (rd : D), rs.length ≤ 12 ∧ (rd = iTs rs ∨ rd = iLs rs) ∧ ds = [m.d, rd]
abbrev po_is_last (ds : List D) (d : D) : Prop := ∀ (m : Mach) (rs : List Nat), (ds = [m.d, iTs rs] ∨ ds = [m.d, iLs rs]) → d = .bl (m.isLast rs)
abbrev K_is_last (P : Program) (w : World) (K : PySem.W.Frag) (mg : Str → Option Value) (base : Heap) (T : List NdefX.NTab) : Prop := KnR P w K mg base T "is_last" 1 [] pr_is_last po_is_last
abbrev pr_is_parting (ds : List D) : Prop := ∃ (a b : Mach) (S U : List Nat) (sd ud : D), S.length ≤ 12 ∧ U.length ≤ 12 ∧ ((sd = iTs S ∧ ud = iTs U) ∨ (sd = iLs S ∧ ud = iLs U)) ∧ ds = [a.d, b.d, .tup [sd, ud]]
abbrev po_is_parting (ds : List D) (d : D) : Prop := ∀ (a b : Mach) (S U : List Nat), (ds = [a.d, b.d, .tup [iTs S, iTs U]] ∨ ds = [a.d, b.d, .tup [iLs S, iLs U]]) → d = .bl (!decide (a.isLast S = b.isLast U))
abbrev K_is_parting (P : Program) (w : World) (K : PySem.W.Frag) (mg : Str → Option Value) (base : Heap) (T : List NdefX.NTab) : Prop := KnR P w K mg base T "is_parting" 2 [] pr_is_parting po_is_parting
abbrev pr_is_set_text (ds : List D) : Prop := ∃ (m : Mach) (S : List Nat), m.Ok ∧ ds = [m.d, .str (txt m.n S)]
abbrev po_is_set_text (ds : List D) (d : D) : Prop := d = .bl true
abbrev K_is_set_text (P : Program) (w : World) (K : PySem.W.Frag) (mg : Str → Option Value) (base : Heap) (T : List NdefX.NTab) : Prop := KnR P w K mg base T "is_set_text" 1 [] pr_is_set_text po_is_set_text
abbrev pr_is_pair (ds : List D) : Prop := ∃ (a b : Mach) (S U : List Nat), a.Ok ∧ b.Ok ∧ ds = [a.d, b.d, .tup [.str (txt a.n S), .str (txt b.n U)]]
abbrev po_is_pair (ds : List D) (d : D) : Prop := d = .bl true
abbrev K_is_pair (P : Program) (w : World) (K : PySem.W.Frag) (mg : Str → Option Value) (base : Heap) (T : List NdefX.NTab) : Prop := KnR P w K mg base T "is_pair" 2 [] pr_is_pair po_is_pair
abbrev pr_rooms_of (ds : List D) : Prop := ∃ (n : Nat) (S : List Nat), n ≤ 12 ∧ ds = [.str (txt n S)]
abbrev po_rooms_of (ds : List D) (d : D) : Prop := ∀ (n : Nat) (S : List Nat), S.Pairwise (· < ·) → (∀ r ∈ S, r < n) → ds = [.str (txt n S)] → d = iLs S
abbrev K_rooms_of (P : Program) (w : World) (K : PySem.W.Frag) (mg : Str → Option Value) (base : Heap) (T : List NdefX.NTab) : Prop := KnR P w K mg base T "rooms_of" 1 [] pr_rooms_of po_rooms_of
abbrev pr_led_text_sameness (ds : List D) : Prop := ∃ (m : Mach) (S : List Nat) (c : Nat), m.Ok ∧ S.Pairwise (· < ·) ∧ (∀ r ∈ S, r < m.n) ∧ ds = [m.d, .str (txt m.n S), sg c]
abbrev po_led_text_sameness (ds : List D) (d : D) : Prop := ∀ (m : Mach) (S : List Nat) (c : Nat), S.Pairwise (· < ·) → (∀ r ∈ S, r < m.n) → ds = [m.d, .str (txt m.n S), sg c] → d = .str (txt m.n (m.by S c))
abbrev K_led_text_sameness (P : Program) (w : World) (K : PySem.W.Frag) (mg : Str → Option Value) (base : Heap) (T : List NdefX.NTab) : Prop := KnR P w K mg base T "led_text_sameness" 7 [] pr_led_text_sameness po_led_text_sameness
theorem txt_code (S : List Nat) (i : Nat) : (if i ∈ S then 49 else 48) = 49 ∨ (if i ∈ S then 49 else 48) = 48 := by
  by_cases h : i ∈ S <;> simp [h]
theorem idx_txt (n : Nat) (S : List Nat) : IdxIs (enumD 0 ((chars (txt n S)).map D.str)) (List.range n) (fun _ x => .tup [iD x, sg (if x ∈ S then 49 else 48)]) := by
  have h := idx_enumS ((List.range n).map fun i => if i ∈ S then 49 else 48)
  refine ⟨h.len.trans (by rw [List.length_map]), fun i x hx => ?_⟩
  have hi := (List.getElem?_eq_some_iff.mp hx).1
  rw [List.length_range] at hi
  have e : x = i := by
    rw [List.getElem?_range hi] at hx
    exact (Option.some.inj hx).symm
  subst e
  exact h.at' x _ (by rw [List.getElem?_map, List.getElem?_range hi]; rfl)
theorem eqS49 (S : List Nat) (i : Nat) : decide (s1 (if i ∈ S then 49 else 48) = Str.ofString "1") = decide (i ∈ S) := by
  rw [show Str.ofString "1" = s1 49 from rfl, eqS1]
  by_cases h : i ∈ S <;> simp [h]
theorem txt_back {n : Nat} {S : List Nat} (h1 : S.Pairwise (· < ·)) (h2 : ∀ r ∈ S, r < n) : (List.range n).filter (fun i => decide (i ∈ S)) = S := by
  refine sorted_eqN ((range_pw n).filter _) h1 fun x => ?_
  rw [List.mem_filter, List.mem_range]
  constructor
  · intro h; exact of_decide_eq_true h.2
  · intro h; exact ⟨h2 x h, decide_eq_true h⟩
theorem txt_inj {n n' : Nat} {S S' : List Nat} (h1 : S.Pairwise (· < ·)) (h2 : ∀ r ∈ S, r < n) (h3 : S'.Pairwise (· < ·)) (h4 : ∀ r ∈ S', r < n') (h : txt n S = txt n' S') : n = n' ∧ S = S' := by
  have e := mkS_inj h
  have hn : n = n' := by have := congrArg List.length e; simpa using this
  subst hn
  refine ⟨rfl, ?_⟩
  rw [← txt_back h1 h2, ← txt_back h3 h4]
  refine List.filter_congr fun i hi => ?_
  have hi := List.mem_range.mp hi
  have e1 := congrArg (fun l => l[i]?) e
  simp only [List.getElem?_map, List.getElem?_range hi, Option.map_some, Option.some.injEq] at e1
  by_cases a : i ∈ S <;> by_cases b : i ∈ S' <;> simp [a, b] at e1 ⊢
section
variable {P : Program} {w : World} {K : PySem.W.Frag} {mg : Str → Option Value} {base : Heap} {T : List NdefX.NTab} {f : Addr} {fd : FuncData}
theorem ok_both_signs (F : FnP K "both_signs" "both_signs" s_both_signs [] f fd) (g : Bl mg) (c : Cn mg) (h_signs_of_sets : K_signs_of_sets P w K mg base T) : FnOk P w K mg base CX0 2 f fd ["one", "other"] (spR w T pr_both_signs po_both_signs) := by
  refine fnR F sc_both_signs ?_ fun cdv A outer s H E hr => ?_
  · rintro ds h
    (repeat (obtain ⟨_, h⟩ := h))
    first
      | rfl
      | (subst h; rfl)
  have hu := hr.units
  have hu1 := hu_of hr
  have nd := sc_both_signs.nd
  refine ⟨_, (pss_one (ps_ret (kpe (t' := tSortedSet K _) (pe_sortedSet (by rfl) g.sorted (by rfl) g.set rfl (pe_op op_ADD (pe_kn h_signs_of_sets (hr.mono (by decide)) (by rfl) (pa_cons (pv 0) pa_nil)) (pe_kn h_signs_of_sets (hr.mono (by decide)) (by rfl) (pa_cons (pv 1) pa_nil))))))), fun H B ds hp => ?_⟩
  obtain ⟨a, b, ha, hb, rfl⟩ := hp
  have s1 := sig26 a
  have s2 := sig26 b
  repeat walk_at "gm"
  refine ev_sortedS ?_
  repeat walk_at "gm"
  refine ⟨⟨a, ha, rfl⟩, fun d e => ?_⟩
  rw [e a rfl]
  repeat walk_at "gm"
  refine ⟨⟨b, hb, rfl⟩, fun d e => ?_⟩
  rw [e b rfl]
  refine op_catL rfl rfl (by rw [List.length_map, List.length_map]; omega) ⟨a.sig ++ b.sig, by rw [List.map_append]; rfl, by rw [List.length_append]; omega, sig_len fun c hc => ?_, fun cs' hs hmem => ⟨_, rfl, fun a' b' e => ?_⟩⟩
  · exact (List.mem_append.mp hc).elim Mach.sig_L Mach.sig_L
  · simp only [List.cons.injEq, and_true] at e
    rw [← Mach.d_inj e.1, ← Mach.d_inj e.2]
    rw [sorted_eqN hs (bsig_pw a b) fun x => by rw [hmem, mem_bsig, List.mem_append]]
theorem ok_is_last (F : FnP K "is_last" "is_last" s_is_last [] f fd) (g : Bl mg) (c : Cn mg)  : FnOk P w K mg base CX0 1 f fd ["machine", "rooms"] (spR w T pr_is_last po_is_last) := by
  refine fnR F sc_is_last ?_ fun cdv A outer s H E hr => ?_
  · rintro ds h
    (repeat (obtain ⟨_, h⟩ := h))
    first
      | rfl
      | (subst h; rfl)
  have hu := hr.units
  have hu1 := hu_of hr
  have nd := sc_is_last.nd
  refine ⟨_, (pss_one (ps_ret (pe_callB (kcr_any (K := K) rfl) (by rfl) g.any boot_any (pa_cons (pe_lc (own := [("room", 2)]) (by rfl) nd (kpi_seq (K := K) (pv 1)) (blkOk_by (own := [("room", 2)]) (N := ["machine", "rooms", "room"]) (sc := defScope s_is_last) (by decide +kernel)) (fun _ _ _ _ _ => (pg_name (i := 2) nd rfl (by first | exact Or.inl rfl | exact Or.inr rfl))) (fun _ _ _ _ _ => pts_nil) (fun _ _ _ _ _ => (pe_cmpR (kop_in (K := K)) (pv 2) (pe_ix (kix_seq (K := K)) (pv 0) pe_int (fun _ _ => rfl)) (by rfl)))) pa_nil)))), fun H B ds hp => ?_⟩
  obtain ⟨m, rs, rd, hl, hrd, rfl⟩ := hp
  repeat walk_at "gm"
  refine ev_lcM (fun _ r => iD r) rs (fun r => .bl (decide (r ∈ m.ls))) (by repeat walk_at "gm") (by repeat walk_at "gm") rfl ?_
  have src : ∀ {Z : Zn} {kk : List D → List Kd → Prop}, kk (rs.map iD) (start0 3 [m.d, rd]) → ItD Z (iSeq K (tVar 1)) (start0 3 [m.d, rd]) kk := by
    intro Z kk h
    rcases hrd with rfl | rfl
    · exact it_tupG (ev_var rfl rfl ⟨_, rfl, h⟩)
    · exact it_listG (ev_var rfl rfl ⟨_, rfl, h⟩)
  refine src ⟨by rw [List.length_map]; omega, idx_map iD, rfl, ?_, fun i x hx Ha => ?_⟩
  · repeat walk_at "gm"
    refine cb_any (bs := rs.map fun r => decide (r ∈ m.ls)) (by rw [List.map_map]; rfl) ⟨_, rfl, fun m' rs' e => ?_⟩
    have e2 : m = m' ∧ rs = rs' := by
      rcases hrd with rfl | rfl <;> rcases e with e | e <;> simp only [List.cons.injEq, and_true] at e <;> obtain ⟨a1, a2⟩ := e
      · exact ⟨Mach.d_inj a1, iTs_inj a2⟩
      · cases a2
      · cases a2
      · exact ⟨Mach.d_inj a1, iLs_inj a2⟩
    obtain ⟨rfl, rfl⟩ := e2
    unfold Mach.isLast
    rw [List.any_map]
    rfl
  · repeat walk_at "gm"
    exact ⟨rfl, rfl⟩
theorem ok_is_parting (F : FnP K "is_parting" "is_parting" s_is_parting [] f fd) (g : Bl mg) (c : Cn mg) (h_is_last : K_is_last P w K mg base T) : FnOk P w K mg base CX0 2 f fd ["one", "other", "pair"] (spR w T pr_is_parting po_is_parting) := by
  refine fnR F sc_is_parting ?_ fun cdv A outer s H E hr => ?_
  · rintro ds h
    (repeat (obtain ⟨_, h⟩ := h))
    first
      | rfl
      | (subst h; rfl)
  have hu := hr.units
  have hu1 := hu_of hr
  have nd := sc_is_parting.nd
  refine ⟨_, (pss_one (ps_ret (pe_cmpR (kop_NE (K := K) hu) (pe_kn h_is_last (hr.mono (by decide)) (by rfl) (pa_cons (pv 0) (pa_cons (pe_ix (kix_seq (K := K)) (pv 2) pe_int (fun _ _ => rfl)) pa_nil))) (pe_kn h_is_last (hr.mono (by decide)) (by rfl) (pa_cons (pv 1) (pa_cons (pe_ix (kix_seq (K := K)) (pv 2) pe_int (fun _ _ => rfl)) pa_nil))) (nomark _)))), fun H B ds hp => ?_⟩
  obtain ⟨a, b, S, U, sd, ud, h1, h2, hd, rfl⟩ := hp
  have hs : sd = iTs S ∨ sd = iLs S := hd.elim (fun h => .inl h.1) fun h => .inr h.1
  have hu' : ud = iTs U ∨ ud = iLs U := hd.elim (fun h => .inl h.2) fun h => .inr h.2
  repeat walk_at "gm"
  refine ⟨⟨a, S, sd, h1, hs, rfl⟩, fun d e => ?_⟩
  rw [e a S (hs.elim (fun h => .inl (by rw [h]; rfl)) fun h => .inr (by rw [h]; rfl))]
  repeat walk_at "gm"
  refine ⟨⟨b, U, ud, h2, hu', rfl⟩, fun d e => ?_⟩
  rw [e b U (hu'.elim (fun h => .inl (by rw [h]; rfl)) fun h => .inr (by rw [h]; rfl))]
  repeat walk_at "gm"
  refine ⟨_, rfl, fun a' b' S' U' e => ?_⟩
  have e2 : a = a' ∧ b = b' ∧ S = S' ∧ U = U' := by
    rcases hd with ⟨rfl, rfl⟩ | ⟨rfl, rfl⟩ <;> rcases e with e | e <;> simp only [List.cons.injEq, and_true, D.tup.injEq] at e <;> obtain ⟨a1, a2, a3, a4⟩ := e
    · exact ⟨Mach.d_inj a1, Mach.d_inj a2, iTs_inj a3, iTs_inj a4⟩
    · cases a3
    · cases a3
    · exact ⟨Mach.d_inj a1, Mach.d_inj a2, iLs_inj a3, iLs_inj a4⟩
  obtain ⟨rfl, rfl, rfl, rfl⟩ := e2
  rfl
theorem ok_is_set_text (F : FnP K "is_set_text" "is_set_text" s_is_set_text [] f fd) (g : Bl mg) (c : Cn mg)  : FnOk P w K mg base CX0 1 f fd ["machine", "thing"] (spR w T pr_is_set_text po_is_set_text) := by
  refine fnR F sc_is_set_text ?_ fun cdv A outer s H E hr => ?_
  · rintro ds h
    (repeat (obtain ⟨_, h⟩ := h))
    first
      | rfl
      | (subst h; rfl)
  have hu := hr.units
  have hu1 := hu_of hr
  have nd := sc_is_set_text.nd
  refine ⟨_, (pss_one (ps_ret (pe_and (pe_callB (kcall_isi (K := K)) (by rfl) g.isinstance boot_isinstance (pa_cons (pv 1) (pa_cons (pe_bltn (v := .ty "str") (u := .type "str") (by rfl) g.str boot_str rfl) pa_nil))) (pe_and (pe_cmpR (kop_EQ (K := K) hu) (pe_callB (kcall_len (K := K)) (by rfl) g.len boot_len (pa_cons (pv 1) pa_nil)) (pe_ix (kix_seq (K := K)) (pv 0) pe_int (fun _ _ => rfl)) (nomark _)) (pe_one (pe_callB (kcr_all (K := K) rfl) (by rfl) g.all boot_all (pa_cons (pe_lc (own := [("sign", 2)]) (by rfl) nd (kpi_seq (K := K) (pv 1)) (blkOk_by (own := [("sign", 2)]) (N := ["machine", "thing", "sign"]) (sc := defScope s_is_set_text) (by decide +kernel)) (fun _ _ _ _ _ => (pg_name (i := 2) nd rfl (by first | exact Or.inl rfl | exact Or.inr rfl))) (fun _ _ _ _ _ => pts_nil) (fun _ _ _ _ _ => (pe_cmpR op_in_sign (pv 2) pe_str (by rfl)))) pa_nil))))))), fun H B ds hp => ?_⟩
  obtain ⟨m, S, hm, rfl⟩ := hp
  have h12 := hm.n2
  have ht := txt_len m.n S
  repeat walk_at "gm"
  refine tk_t rfl ?_
  repeat walk_at "gm"
  refine ⟨by rw [ht]; omega, ?_⟩
  repeat walk_at "gm"
  rw [ht]
  refine tk_t (decide_eq_true rfl) ?_
  repeat walk_at "gm"
  obtain ⟨l, hl, hll, hlc⟩ : ∃ l, txt m.n S = mkS l ∧ l.length = m.n ∧ ∀ c ∈ l, c = 49 ∨ c = 48 := ⟨_, rfl, by rw [List.length_map, List.length_range], fun c hc => by
    obtain ⟨j, _, rfl⟩ := List.mem_map.mp hc
    exact txt_code S j⟩
  rw [hl]
  refine ev_lcM (fun _ c => sg c) l (fun _ => .bl true) (by repeat walk_at "gm") (by repeat walk_at "gm") rfl ?_
  refine it_strG ?_
  repeat walk_at "gm"
  refine ⟨_, rfl, by rw [(idx_str l).len]; omega, idx_str l, rfl, ?_, fun i x hx Ha => ?_⟩
  · repeat walk_at "gm"
    refine cb_all (bs := l.map fun _ => true) (by rw [List.map_map]; rfl) ⟨_, rfl, ?_⟩
    refine congrArg D.bl (List.all_eq_true.mpr fun b hb => ?_)
    obtain ⟨_, _, rfl⟩ := List.mem_map.mp hb
    rfl
  · have hx := hlc x (List.mem_of_getElem? hx)
    repeat walk_at "gm"
    refine ⟨?_, rfl⟩
    rw [decide_eq_true]
    rcases hx with h | h <;> rw [h] <;> decide
theorem ok_is_pair (F : FnP K "is_pair" "is_pair" s_is_pair [] f fd) (g : Bl mg) (c : Cn mg) (h_is_set_text : K_is_set_text P w K mg base T) : FnOk P w K mg base CX0 2 f fd ["one", "other", "thing"] (spR w T pr_is_pair po_is_pair) := by
  refine fnR F sc_is_pair ?_ fun cdv A outer s H E hr => ?_
  · rintro ds h
    (repeat (obtain ⟨_, h⟩ := h))
    first
      | rfl
      | (subst h; rfl)
  have hu := hr.units
  have hu1 := hu_of hr
  have nd := sc_is_pair.nd
  refine ⟨_, (pss_one (ps_ret (pe_and (pe_callB (kcall_isi (K := K)) (by rfl) g.isinstance boot_isinstance (pa_cons (pv 2) (pa_cons (pe_bltn (v := .ty "tuple") (u := .type "tuple") (by rfl) g.tuple boot_tuple rfl) pa_nil))) (pe_and (pe_cmpR (kop_EQ (K := K) hu) (pe_callB (kcall_len (K := K)) (by rfl) g.len boot_len (pa_cons (pv 2) pa_nil)) pe_int (nomark _)) (pe_and (pe_kn h_is_set_text (hr.mono (by decide)) (by rfl) (pa_cons (pv 0) (pa_cons (pe_ix (kix_seq (K := K)) (pv 2) pe_int (fun _ _ => rfl)) pa_nil))) (pe_one (pe_kn h_is_set_text (hr.mono (by decide)) (by rfl) (pa_cons (pv 1) (pa_cons (pe_ix (kix_seq (K := K)) (pv 2) pe_int (fun _ _ => rfl)) pa_nil))))))))), fun H B ds hp => ?_⟩
  obtain ⟨a, b, S, U, ha, hb, rfl⟩ := hp
  repeat walk_at "gm"
  refine tk_t rfl ?_
  repeat walk_at "gm"
  refine tk_t (by rfl) ?_
  repeat walk_at "gm"
  refine ⟨⟨a, S, ha, rfl⟩, fun d e => ?_⟩
  subst e
  repeat walk_at "gm"
  refine tk_t rfl ?_
  repeat walk_at "gm"
  refine ⟨⟨b, U, hb, rfl⟩, fun d e => ?_⟩
  subst e
  exact ⟨_, rfl, rfl⟩
theorem ok_rooms_of (F : FnP K "rooms_of" "rooms_of" s_rooms_of [] f fd) (g : Bl mg) (c : Cn mg)  : FnOk P w K mg base CX0 1 f fd ["text"] (spR w T pr_rooms_of po_rooms_of) := by
  refine fnR F sc_rooms_of ?_ fun cdv A outer s H E hr => ?_
  · rintro ds h
    (repeat (obtain ⟨_, h⟩ := h))
    first
      | rfl
      | (subst h; rfl)
  have hu := hr.units
  have hu1 := hu_of hr
  have nd := sc_rooms_of.nd
  refine ⟨_, (pss_one (ps_ret (pe_lc (own := [("room", 1), ("sign", 2)]) (by rfl) nd (pi_enumS (by rfl) g.enumerate (pa_cons (pv 0) pa_nil)) (blkOk_by (own := [("room", 1), ("sign", 2)]) (N := ["text", "room", "sign"]) (sc := defScope s_rooms_of) (by decide +kernel)) (fun _ _ _ _ _ => (kpg_tup (K := K) (n := 2) rfl (pgs_cons (pg_name (i := 1) nd rfl (by first | exact Or.inl rfl | exact Or.inr rfl)) (pgs_cons (pg_name (i := 2) nd rfl (by first | exact Or.inl rfl | exact Or.inr rfl)) pgs_nil)))) (fun _ _ _ _ _ => (pts_one (pt_cmpR (kop_EQ (K := K) hu) (pv 2) pe_str (nomark _)))) (fun _ _ _ _ _ => (pv 1))))), fun H B ds hp => ?_⟩
  obtain ⟨n, S, hn, rfl⟩ := hp
  repeat walk_at "gm"
  refine ev_lcP (fun _ x => .tup [iD x, sg (if x ∈ S then 49 else 48)]) (List.range n) (fun x => decide (x ∈ S)) iD (by repeat walk_at "gm") (by repeat walk_at "gm") rfl ?_
  repeat walk_at "gm"
  refine ⟨by rw [(idx_txt n S).len, List.length_range]; omega, idx_txt n S, rfl, ⟨_, rfl, fun n' S' h1 h2 e => ?_⟩, fun i x hx Ha => ?_⟩
  · simp only [List.cons.injEq, and_true, D.str.injEq] at e
    have e1 := mkS_inj e
    have hn' : n = n' := by have := congrArg List.length e1; simpa using this
    subst hn'
    show iLs _ = iLs S'
    refine congrArg iLs (Eq.trans (List.filter_congr fun i hi => ?_) (txt_back h1 h2))
    have hi := List.mem_range.mp hi
    have e2 := congrArg (fun l => l[i]?) e1
    simp only [List.getElem?_map, List.getElem?_range hi, Option.map_some, Option.some.injEq] at e2
    by_cases a : i ∈ S <;> by_cases b : i ∈ S' <;> simp [a, b] at e2 ⊢
  · repeat walk_at "gm"
    rw [eqS49]
    refine ⟨rfl, fun _ => ?_, fun _ => rfl⟩
    repeat walk_at "gm"
    exact ⟨rfl, rfl⟩
theorem ok_led_text_sameness (F : FnP K "led_text" "led_text" s_led_text_sameness [] f fd) (g : Bl mg) (c : Cn mg) (h_rooms_of : K_rooms_of P w K mg base T) (h_set_by : K_set_by P w K mg base T) (h_rooms_text : K_rooms_text P w K mg base T) : FnOk P w K mg base CX0 7 f fd ["machine", "text", "sign"] (spR w T pr_led_text_sameness po_led_text_sameness) := by
  refine fnR F sc_led_text_sameness ?_ fun cdv A outer s H E hr => ?_
  · rintro ds h
    (repeat (obtain ⟨_, h⟩ := h))
    first
      | rfl
      | (subst h; rfl)
  have hu := hr.units
  have hu1 := hu_of hr
  have nd := sc_led_text_sameness.nd
  refine ⟨_, (pss_one (ps_ret (pe_kn h_rooms_text (hr.mono (by decide)) (by rfl) (pa_cons (pv 0) (pa_cons (pe_callTy (kcall_list_of (K := K)) (by rfl) g.list boot_list (pa_cons (pe_kn h_set_by (hr.mono (by decide)) (by rfl) (pa_cons (pv 0) (pa_cons (pe_kn h_rooms_of (hr.mono (by decide)) (by rfl) (pa_cons (pv 1) pa_nil)) (pa_cons (pv 2) pa_nil)))) pa_nil)) pa_nil))))), fun H B ds hp => ?_⟩
  obtain ⟨m, S, c, hm, h1, h2, rfl⟩ := hp
  repeat walk_at "gm"
  refine ⟨⟨m.n, S, hm.n2, rfl⟩, fun d e => ?_⟩
  rw [e m.n S h1 h2 rfl]
  repeat walk_at "gm"
  refine ⟨⟨m, S, c, _, hm, .inr rfl, rfl⟩, fun d e => ?_⟩
  rw [e m S c (.inr rfl)]
  repeat walk_at "gm"
  refine cb_listOf (.inr rfl) ?_
  repeat walk_at "gm"
  refine ⟨⟨m, m.by S c, hm, fun r hr => Mach.by_lt hr, rfl⟩, fun d e => ?_⟩
  rw [e m (m.by S c) rfl]
  refine ⟨_, rfl, fun m' S' c' h3 h4 e => ?_⟩
  simp only [List.cons.injEq, and_true, D.str.injEq] at e
  obtain ⟨e1, e2, e3⟩ := e
  have e1 := Mach.d_inj e1
  subst e1
  rw [(txt_inj h1 h2 h3 h4 e2).2, sg_inj e3]
end
end Gm
namespace Gm
open PySem PySem.Spec PyProof.Rows L2
local macro_rules | `(tactic| walk_at "gm") => `(tactic| first
  | (with_reducible refine st_seq ?_)
  | ((with_reducible show Tg _ (gName _) _ _ _); refine tg_nameG rfl ?_)
  | ((with_reducible show Tg _ (gTup _ _ _) _ _ _); refine tg_tup (by rfl) ?_)
  | (with_reducible refine tgs_cons ?_)
  | (with_reducible refine tgs_nil ?_)
  | (with_reducible refine tgin_name (by decide))
  | (with_reducible refine tgin_tup ?_)
  | (with_reducible refine tgsin_cons ?_ ?_ ?_ ?_)
  | (with_reducible exact tgsin_nil)
  | (with_reducible exact tgm_name)
  | (with_reducible refine tgm_tup ?_)
  | (with_reducible refine tgsm_cons ?_ ?_)
  | (with_reducible exact tgsm_nil)
  | (with_reducible refine ev_neg ?_)
  | ((with_reducible show ∃ i, Rz.d (D.int _) = Rz.d (D.int i) ∧ _); refine ⟨_, rfl, ?_⟩)
  | (with_reducible refine it_enumG ?_)
  | (with_reducible refine it_rngG ?_)
  | (with_reducible refine st_if ?_)
  | (with_reducible refine st_ret ?_)
  | (with_reducible refine st_retN ?_)
  | (with_reducible refine st_drop ?_)
  | (with_reducible refine st_next ?_)
  | (with_reducible refine st_cont ?_)
  | (with_reducible refine et_B ?_)
  | (with_reducible refine et_test ?_)
  | (with_reducible refine et_not ?_)
  | (with_reducible refine et_and ?_)
  | (with_reducible refine et_or ?_)
  | (with_reducible refine ev_andV ?_)
  | (with_reducible refine ev_orV ?_)
  | (with_reducible refine ev_notV ?_)
  | (with_reducible refine ev_if ?_)
  | (with_reducible refine ev_chain ?_)
  | (with_reducible refine ev_op' ?_)
  | (with_reducible refine ev_tupG ?_)
  | (with_reducible refine ev_lstG ?_)
  | (with_reducible refine ev_callG rs_nil rfl rfl ?_)
  | (with_reducible refine ev_cb ?_)
  | (with_reducible refine ev_bm ?_)
  | (with_reducible refine ev_bm0 ?_)
  | (with_reducible refine ev_m1 ?_)
  | (with_reducible refine ev_slice ?_)
  | (with_reducible refine eo_none ?_)
  | (with_reducible refine eo_some ?_)
  | (with_reducible refine ea_cons' ?_)
  | (with_reducible refine ea_nil ?_)
  | ((with_reducible show Ev _ (tVar _) _ _); refine ev_var rfl rfl ?_)
  | (with_reducible refine ev_int ?_)
  | (with_reducible refine ev_str ?_)
  | (with_reducible refine ev_bl ?_)
  | (with_reducible refine ev_non ?_)
  | ((with_reducible show Ev _ (tC (V.ty _)) _ _); refine ev_cx ?_)
  | ((with_reducible show ∃ b, Rz.d (D.bl _) = Rz.d (D.bl b) ∧ _); refine ⟨_, rfl, ?_⟩)
  | ((with_reducible show ∃ ds, unDs _ = some ds ∧ _); refine ⟨_, rfl, ?_⟩)
  | ((with_reducible show List.length _ ≤ 100000 ∧ _); refine and_ble rfl ?_)
  | ((with_reducible show Cb _ (rIsi _) _ _ _); refine cb_isT rfl rfl rfl (by decide) ?_)
  | ((with_reducible show Cb _ (fun xs H Q => ∃ x n, xs = [x] ∧ LenV _ x H n ∧ Q (.int n) H) _ _ _); refine cb_lenG rfl rfl ?_)
  | ((with_reducible show Op2 _ (orR rEq _) _ _ _ _); first | refine op_eqI rfl rfl ?_ | refine op_eqS rfl rfl ?_)
  | ((with_reducible show Op2 _ (orR rNe _) _ _ _ _); first | refine op_neI rfl rfl ?_ | refine op_neB rfl rfl ?_)
  | ((with_reducible show Op2 _ (rI0 _) _ _ _ _); first | refine op_cmpI rfl rfl ?_ | refine op_subI rfl rfl ?_)
  | ((with_reducible show Op2 _ (orR (rI0 _) _) _ _ _ _); refine op_addI rfl rfl ?_)
  | ((with_reducible show Op2 _ (fun x y H Q => y = V.non ∧ _) _ _ _ _); first | refine op_is rfl rfl ?_ | refine op_isnot rfl rfl ?_)
  | ((with_reducible show Op2 _ (fun x y H Q => ∃ (c : Nat) (z : Str), x = V.str ⟨#[c]⟩ ∧ _) _ _ _ _); refine op_inSign rfl rfl ?_)
  | ((with_reducible show Op2 _ (rIx _) _ _ _ _); refine op_ix rfl rfl rfl (fun _ z => by cases z) ?_)
  | (with_reducible refine ev_newN rfl ?_)
  | (with_reducible refine ev_newI ?_)
  | ((with_reducible show Cb _ (fun xs H Q => (∃ i, xs = [V.int i] ∧ _) ∨ _) _ _ _); refine cb_intB rfl ?_)
  | ((with_reducible show Op2 _ (rIn _ _) _ _ _ _); refine op_inL rfl rfl ?_)
  | (with_reducible refine it_listG ?_)
  | (with_reducible refine et_yes ?_)
  | ((with_reducible show ∃ ds, unD _ = some (D.lst ds) ∧ _); refine ⟨_, rfl, ?_⟩)
  | ((with_reducible show ∃ ds, unDs _ = some [D.lst ds] ∧ _); refine ⟨_, rfl, ?_⟩)
  | ((with_reducible show ∃ n, unDs _ = some [iD n] ∧ _); refine ⟨_, rfl, ?_⟩)
  | ((with_reducible show (∃ d, vw _ _ = some d ∧ tyD _ d) ∧ _); refine ⟨⟨_, rfl, rfl⟩, ?_⟩)
  | ((with_reducible show Mt _ rAppend (Rz.o _) [Rz.d _] _ _); refine mt_app rfl ?_ ?_)
  | (with_reducible refine it_enumS ?_)
  | ((with_reducible show ∃ s, unDs _ = some [D.str s] ∧ _); refine ⟨_, rfl, ?_⟩))
abbrev s_pairs_of : Stmt := topS 54
theorem sc_pairs_of : FnScope ["one", "other", "most", "row", "seen", "at", "pair", "text", "sign", "there"] ["one", "other", "most"] (defScope s_pairs_of) := ⟨rfl, rfl, rfl, by decide +kernel, rfl, by decide +kernel, by decide +kernel⟩
abbrev s_parting : Stmt := topS 55
theorem sc_parting : FnScope ["one", "other", "pair", "text"] ["one", "other"] (defScope s_parting) := ⟨rfl, rfl, rfl, by decide +kernel, rfl, by decide +kernel, by decide +kernel⟩
def most? (ds : List D) : Option Int := match ds with
  | [_, _, .int i] => some i
  | _ => none
abbrev pr_pairs_of (ds : List D) : Prop := ∃ (a b : Mach) (Vp : List Pr) (n : Nat), a.Ok ∧ b.Ok ∧ (a.fs, b.fs) ∈ Vp ∧ PClosed a b Vp ∧ Vp.length ≤ n ∧ n ≤ 4000 ∧ (∀ p ∈ Vp, a.isLast p.1 = b.isLast p.2) ∧ ds = [a.d, b.d, iD n]
abbrev po_pairs_of (ds : List D) (d : D) : Prop := ∀ (a b : Mach) (n : Nat), ds = [a.d, b.d, iD n] → ∃ row : List (Pr × List Nat), PRow a b (row.map (·.1)) ∧ d = .lst (row.map prD)
abbrev K_pairs_of (P : Program) (w : World) (K : PySem.W.Frag) (mg : Str → Option Value) (base : Heap) (T : List NdefX.NTab) : Prop := KnR P w K mg base T "pairs_of" 3 [] pr_pairs_of po_pairs_of
abbrev pr_parting (ds : List D) : Prop := ∃ (a b : Mach) (Vp : List Pr), a.Ok ∧ b.Ok ∧ (a.fs, b.fs) ∈ Vp ∧ PClosed a b Vp ∧ Vp.length ≤ 400 ∧ (∀ p ∈ Vp, a.isLast p.1 = b.isLast p.2) ∧ ds = [a.d, b.d]
abbrev po_parting (ds : List D) (d : D) : Prop := d = .non
abbrev K_parting (P : Program) (w : World) (K : PySem.W.Frag) (mg : Str → Option Value) (base : Heap) (T : List NdefX.NTab) : Prop := KnR P w K mg base T "parting" 6 [] pr_parting po_parting
section
variable {P : Program} {w : World} {K : PySem.W.Frag} {mg : Str → Option Value} {base : Heap} {T : List NdefX.NTab} {f : Addr} {fd : FuncData}
theorem ok_pairs_of (F : FnP K "pairs_of" "pairs_of" s_pairs_of [] f fd) (g : Bl mg) (c : Cn mg) (h_is_parting : K_is_parting P w K mg base T) (h_both_signs : K_both_signs P w K mg base T) (h_set_by : K_set_by P w K mg base T) : FnOk P w K mg base CX0 3 f fd ["one", "other", "most"] (spR w T pr_pairs_of po_pairs_of) := by
  refine fnR F sc_pairs_of ?_ fun cdv A outer s H E hr => ?_
  · rintro ds h
    (repeat (obtain ⟨_, h⟩ := h))
    first
      | rfl
      | (subst h; rfl)
  have hu := hr.units
  have hu1 := hu_of hr
  have nd := sc_pairs_of.nd
  refine ⟨_, (pss_cons (ps_set (i := 3) nd rfl (by first | exact Or.inl rfl | exact Or.inr rfl) (pe_lst (pa_cons (pe_tup (pa_cons (pe_tup (pa_cons (kpe (t' := tThen _ (kTup K)) (pe_tupleOf (by rfl) g.tuple (pe_ix (kix_seq (K := K)) (pv 0) pe_int (fun _ _ => rfl)))) (pa_cons (kpe (t' := tThen _ (kTup K)) (pe_tupleOf (by rfl) g.tuple (pe_ix (kix_seq (K := K)) (pv 1) pe_int (fun _ _ => rfl)))) pa_nil))) (pa_cons pe_str pa_nil))) pa_nil)))
  (pss_cons (ps_set (i := 4) nd rfl (by first | exact Or.inl rfl | exact Or.inr rfl) (pe_dispN hu (pe_ix (kix_seq (K := K)) (pe_ix (kix_seq (K := K)) (pv 3) pe_int (fun _ _ => rfl)) pe_int (fun _ _ => rfl)) pe_bl))
  (pss_cons (ps_set (i := 5) nd rfl (by first | exact Or.inl rfl | exact Or.inr rfl) pe_int)
  (pss_cons (ps_while PassesOwn.never (PW.pt (pw_and (pt_cmpR op_lt (pv 5) (pe_callB (kcall_len (K := K)) (by rfl) g.len boot_len (pa_cons (pv 3) pa_nil)) (nomark _)) (pw_and1 (pt_not (pt_val (pe_kn h_is_parting (hr.mono (by decide)) (by rfl) (pa_cons (pv 0) (pa_cons (pv 1) (pa_cons (pe_ix (kix_seq (K := K)) (pe_ix (kix_seq (K := K)) (pv 3) (pe_un un_neg pe_int) (fun _ _ => rfl)) pe_int (fun _ _ => rfl)) pa_nil))))))))) (pss_cons (ps_asg (pe_ix (kix_seq (K := K)) (pv 3) (pv 5) (fun _ _ => rfl)) (kpg_tup (K := K) (n := 2) rfl (pgs_cons (pg_name (i := 6) nd rfl (by first | exact Or.inl rfl | exact Or.inr rfl)) (pgs_cons (pg_name (i := 7) nd rfl (by first | exact Or.inl rfl | exact Or.inr rfl)) pgs_nil))))
  (pss_cons (ps_aug (i := 5) nd rfl (by first | exact Or.inl rfl | exact Or.inr rfl) pe_int ip_add)
  (pss_one (ps_for PassesOwn.never rfl (kpi_seq (K := K) (pe_kn h_both_signs (hr.mono (by decide)) (by rfl) (pa_cons (pv 0) (pa_cons (pv 1) pa_nil)))) (pg_name (i := 8) nd rfl (by first | exact Or.inl rfl | exact Or.inr rfl)) (pss_cons (ps_set (i := 9) nd rfl (by first | exact Or.inl rfl | exact Or.inr rfl) (pe_tup (pa_cons (pe_kn h_set_by (hr.mono (by decide)) (by rfl) (pa_cons (pv 0) (pa_cons (pe_ix (kix_seq (K := K)) (pv 6) pe_int (fun _ _ => rfl)) (pa_cons (pv 8) pa_nil)))) (pa_cons (pe_kn h_set_by (hr.mono (by decide)) (by rfl) (pa_cons (pv 1) (pa_cons (pe_ix (kix_seq (K := K)) (pv 6) pe_int (fun _ _ => rfl)) (pa_cons (pv 8) pa_nil)))) pa_nil))))
  (pss_one (ps_if (PW.pt (pw_and (pt_cmpR (kop_notInDN (w := w) hu) (pv 9) (pv 4) (by rfl)) (pw_and1 (pt_not (pt_val (pe_kn h_is_parting (hr.mono (by decide)) (by rfl) (pa_cons (pv 0) (pa_cons (pv 1) (pa_cons (pe_ix (kix_seq (K := K)) (pe_ix (kix_seq (K := K)) (pv 3) (pe_un un_neg pe_int) (fun _ _ => rfl)) pe_int (fun _ _ => rfl)) pa_nil))))))))) (pss_cons (ps_asg pe_bl (pg_sub (pv 4) (pv 9) (kset_dN (w := w) hu)))
  (pss_cons (ps_expr (pe_bm PySem.F.plainAttrs_list PySem.F.slot_list_append PySem.F.type_list_append mt_append (pv 3) (pa_cons (pe_tup (pa_cons (pv 9) (pa_cons (pe_op op_ADD (pv 7) (pv 8)) pa_nil))) pa_nil)))
  (pss_one (ps_if (PW.pt (pw_and (pt_cmpR op_gt (pe_callB (kcall_len (K := K)) (by rfl) g.len boot_len (pa_cons (pv 3) pa_nil)) (pv 2) (nomark _)) (pw_and1 (pt_not (pt_val (pe_kn h_is_parting (hr.mono (by decide)) (by rfl) (pa_cons (pv 0) (pa_cons (pv 1) (pa_cons (pv 9) pa_nil))))))))) (pss_one ps_never) pss_nil)))) pss_nil))))))))
  (pss_one (ps_ret (pv 3))))))), fun H B ds hp => ?_⟩
  obtain ⟨a, b, Vp, n, ha, hb, hf, hV, hVn, hn, hL, rfl⟩ := hp
  have a12 := ha.n2
  have b12 := hb.n2
  repeat walk_at "gm"
  refine st_asg ?_
  repeat walk_at "gm"
  refine ev_tupOf ?_
  repeat walk_at "gm"
  refine ⟨_, rfl, ?_⟩
  repeat walk_at "gm"
  refine ev_tupOf ?_
  repeat walk_at "gm"
  refine ⟨_, rfl, ?_⟩
  repeat walk_at "gm"
  refine st_asg ?_
  refine ev_dispN rfl fun Ha => ?_
  repeat walk_at "gm"
  refine ⟨_, rfl, keyOk_pdD (a.fs, b.fs), ?_⟩
  repeat walk_at "gm"
  refine ⟨_, rfl, ?_⟩
  repeat walk_at "gm"
  refine st_asg ?_
  repeat walk_at "gm"
  refine st_while (fun k Γ => ∃ (row : List (Pr × List Nat)) (i : Nat) (p t s th : Kd), Γ = [.dat a.d, .dat b.d, .dat (iD n), .ob true (.lst (row.map prD)), .ob true (.dN (seenD row)), .dat (iD i), p, t, s, th] ∧
    k = n - i ∧ i ≤ row.length ∧ (row.map (·.1)).Nodup ∧ (∀ r ∈ row, r.1 ∈ Vp) ∧ (∀ r ∈ row, r.2.length ≤ row.length) ∧ (a.fs, b.fs) ∈ row.map (·.1) ∧ (∀ r ∈ row, PRc a b r.1) ∧ ∀ r ∈ row.take i, ∀ c ∈ bsig a b, (a.by r.1.1 c, b.by r.1.2 c) ∈ row.map (·.1)) n ?_ ?_
  · refine ⟨[((a.fs, b.fs), [])], 0, _, _, _, _, rfl, rfl, Nat.zero_le _, List.pairwise_singleton _ _, by simpa using hf, by simp, by simp, ?_, by simp⟩
    intro r hr Vq h1 _
    rw [List.mem_singleton] at hr
    subst hr
    exact h1
  rintro k Γ ⟨row, i, p, t, s, th, rfl, rfl, hi, rN, rV, rT, r0, rR, rC⟩
  have rl : row.length ≤ n := by
    have := nodup_sub (β := Nat) (row.map (·.1)) Vp rN fun x hx => by
      obtain ⟨r, h, rfl⟩ := List.mem_map.mp hx
      exact rV r h
    rw [List.length_map] at this
    omega
  have rne : row ≠ [] := fun z => by subst z; cases r0
  repeat walk_at "gm"
  refine ⟨by rw [List.length_map]; omega, ?_⟩
  repeat walk_at "gm"
  rw [List.length_map]
  refine tk_b (fun hlt => ?_) fun hge => ?_
  · have hlt : i < row.length := by have := of_decide_eq_true hlt; omega
    obtain ⟨x, hx, ex⟩ := itD_lastG (f := prD) rne
    have xl := (rR x hx).len ha hb
    repeat walk_at "gm"
    refine op_ix rfl rfl ex (fun _ z => by cases z) ?_
    repeat walk_at "gm"
    refine ⟨⟨a, b, x.1.1, x.1.2, _, _, xl.1, xl.2, .inl ⟨rfl, rfl⟩, rfl⟩, fun d e => ?_⟩
    rw [e a b x.1.1 x.1.2 (.inl rfl), decide_eq_true (hL _ (rV x hx))]
    repeat walk_at "gm"
    refine tk_t rfl ?_
    obtain ⟨y, hy⟩ : ∃ y, row[i]? = some y := ⟨row[i], List.getElem?_eq_getElem hlt⟩
    have hym : y ∈ row := List.mem_of_getElem? hy
    repeat walk_at "gm"
    refine st_asg ?_
    repeat walk_at "gm"
    refine op_ix rfl rfl (itD_map hy) (fun _ z => by cases z) ?_
    repeat walk_at "gm"
    refine st_aug rfl ?_
    repeat walk_at "gm"
    refine ⟨rfl, op_ipI rfl rfl ⟨by show 5 < 10; decide, ?_⟩⟩
    refine st_forG (fun _ c => sg c) (bsig a b) (fun q Γ => ∃ (ext : List (Pr × List Nat)) (s th : Kd), Γ = [.dat a.d, .dat b.d, .dat (iD n), .ob true (.lst ((row ++ ext).map prD)), .ob true (.dN (seenD (row ++ ext))), .dat (iD (i + 1)), .dat (pdD y.1), .dat (.str (mkS y.2)), s, th] ∧
      ((row ++ ext).map (·.1)).Nodup ∧ (∀ r ∈ row ++ ext, r.1 ∈ Vp) ∧ (∀ r ∈ row ++ ext, r.2.length ≤ (row ++ ext).length) ∧ (∀ r ∈ row ++ ext, PRc a b r.1) ∧ ∀ c ∈ q, (a.by y.1.1 c, b.by y.1.2 c) ∈ (row ++ ext).map (·.1)) ?_
    refine it_listG ?_
    repeat walk_at "gm"
    refine ⟨⟨a, b, ha, hb, rfl⟩, fun d e => ?_⟩
    rw [e a b rfl]
    have yl := (rR y hym).len ha hb
    refine ⟨_, rfl, idx_map sg, ⟨[], s, th, by rw [List.append_nil, ← iD_add]; rfl, by rw [List.append_nil]; exact rN, by rw [List.append_nil]; exact rV, by rw [List.append_nil]; exact rT, by rw [List.append_nil]; exact rR, by simp⟩, fun q z r es Γ ⟨ext, s, th, hΓ, iN, iV, iT, iR, iC⟩ => ?_, fun Γ ⟨ext, s, th, hΓ, iN, iV, iT, iR, iC⟩ => ?_⟩
    · subst hΓ
      have hz : z ∈ bsig a b := by rw [es]; simp
      have rl2 : (row ++ ext).length ≤ Vp.length := by
        have := nodup_sub (β := Nat) ((row ++ ext).map (·.1)) Vp iN fun x hx => by
          obtain ⟨r, h, rfl⟩ := List.mem_map.mp hx
          exact iV r h
        rwa [List.length_map] at this
      repeat walk_at "gm"
      refine st_asg ?_
      repeat walk_at "gm"
      refine ⟨⟨a, y.1.1, z, _, ha, .inl rfl, rfl⟩, fun d e => ?_⟩
      rw [e a y.1.1 z (.inl rfl)]
      repeat walk_at "gm"
      refine ⟨⟨b, y.1.2, z, _, hb, .inl rfl, rfl⟩, fun d e => ?_⟩
      rw [e b y.1.2 z (.inl rfl)]
      repeat walk_at "gm"
      refine op_inN (dk := pdD (a.by y.1.1 z, b.by y.1.2 z)) rfl (keyOk_pdD _) rfl rfl ⟨_, rfl, ?_⟩
      rw [seen_has]
      by_cases hin : (a.by y.1.1 z, b.by y.1.2 z) ∈ (row ++ ext).map (·.1)
      · rw [decide_eq_true hin]
        refine tk_f rfl (tk_f rfl ?_)
        repeat walk_at "gm"
        refine ⟨ext, _, _, rfl, iN, iV, iT, iR, fun c hc => ?_⟩
        rcases List.mem_append.mp hc with h | h
        · exact iC c h
        · rw [List.mem_singleton] at h; subst h; exact hin
      · rw [decide_eq_false hin]
        refine tk_t rfl ?_
        have rne2 : row ++ ext ≠ [] := fun z => rne (List.append_eq_nil_iff.mp z).1
        obtain ⟨x2, hx2, ex2⟩ := itD_lastG (f := prD) rne2
        have xl2 := (iR x2 hx2).len ha hb
        have newV := hV y.1 (rV y hym) z hz
        repeat walk_at "gm"
        refine op_ix rfl rfl ex2 (fun _ z => by cases z) ?_
        repeat walk_at "gm"
        refine ⟨⟨a, b, x2.1.1, x2.1.2, _, _, xl2.1, xl2.2, .inl ⟨rfl, rfl⟩, rfl⟩, fun d e => ?_⟩
        rw [e a b x2.1.1 x2.1.2 (.inl rfl), decide_eq_true (hL _ (iV x2 hx2))]
        repeat walk_at "gm"
        refine tk_t rfl ?_
        have iN2 : ((row ++ (ext ++ [((a.by y.1.1 z, b.by y.1.2 z), y.2 ++ [z])])).map (·.1)).Nodup := by
          rw [← List.append_assoc, List.map_append]
          exact List.nodup_append.mpr ⟨iN, List.pairwise_singleton _ _, fun u hu v hv => by
            rw [List.map_singleton, List.mem_singleton] at hv
            subst hv
            exact fun zz => hin (by rw [← show u = (a.by y.1.1 z, b.by y.1.2 z) from zz]; exact hu)⟩
        have mem2 : ∀ r ∈ row ++ (ext ++ [((a.by y.1.1 z, b.by y.1.2 z), y.2 ++ [z])]), r ∈ row ++ ext ∨ r = ((a.by y.1.1 z, b.by y.1.2 z), y.2 ++ [z]) := fun r hr => by
          rw [← List.append_assoc] at hr
          rcases List.mem_append.mp hr with h | h
          · exact .inl h
          · exact .inr (List.mem_singleton.mp h)
        have iV2 : ∀ r ∈ row ++ (ext ++ [((a.by y.1.1 z, b.by y.1.2 z), y.2 ++ [z])]), r.1 ∈ Vp := fun r hr => (mem2 r hr).elim (iV r) fun h => by rw [h]; exact newV
        have rl3 : (row ++ ext).length + 1 ≤ Vp.length := by
          have := nodup_sub (β := Nat) _ Vp iN2 fun x hx => by
            obtain ⟨r, h, rfl⟩ := List.mem_map.mp hx
            exact iV2 r h
          rw [List.length_map, ← List.append_assoc, List.length_append, List.length_singleton] at this
          exact this
        have yT : y.2.length ≤ 4000 := Nat.le_trans (iT y (List.mem_append_left _ hym)) (by omega)
        repeat walk_at "gm"
        refine st_putN rfl ?_
        repeat walk_at "gm"
        refine ⟨_, rfl, ⟨_, _, rfl⟩, ?_⟩
        repeat walk_at "gm"
        refine ⟨_, _, pdD (a.by y.1.1 z, b.by y.1.2 z), rfl, keyOk_pdD _, rfl, by rw [seen_len]; omega, ?_⟩
        rw [seen_put hin (y.2 ++ [z])]
        repeat walk_at "gm"
        refine op_addS rfl rfl (by rw [mkS_len]; show _ + 1 ≤ _; omega) ?_
        rw [mkS_app]
        repeat walk_at "gm"
        · rw [List.length_map]; omega
        repeat walk_at "gm"
        refine ⟨by rw [List.length_append, List.length_map, List.length_singleton]; omega, ?_⟩
        repeat walk_at "gm"
        refine tk_f (decide_eq_false (by rw [List.length_append, List.length_map, List.length_singleton]; omega)) (tk_f rfl ?_)
        repeat walk_at "gm"
        have e6 : row ++ ext ++ [((a.by y.1.1 z, b.by y.1.2 z), y.2 ++ [z])] = row ++ (ext ++ [((a.by y.1.1 z, b.by y.1.2 z), y.2 ++ [z])]) := List.append_assoc ..
        have e5 : (row ++ ext).map prD ++ [prD ((a.by y.1.1 z, b.by y.1.2 z), y.2 ++ [z])] = (row ++ (ext ++ [((a.by y.1.1 z, b.by y.1.2 z), y.2 ++ [z])])).map prD := by rw [← e6, List.map_append (l₁ := row ++ ext)]; rfl
        refine ⟨ext ++ [((a.by y.1.1 z, b.by y.1.2 z), y.2 ++ [z])], _, _, by rw [← e5, ← e6]; rfl, iN2, iV2, fun r hr => ?_, fun r hr => ?_, fun c hc => ?_⟩
        · have e7 : (row ++ (ext ++ [((a.by y.1.1 z, b.by y.1.2 z), y.2 ++ [z])])).length = (row ++ ext).length + 1 := by rw [← e6, List.length_append, List.length_singleton]
          rw [e7]
          rcases mem2 r hr with h | h
          · exact Nat.le_succ_of_le (iT r h)
          · rw [h]
            show (y.2 ++ [z]).length ≤ _
            rw [List.length_append, List.length_singleton]
            exact Nat.succ_le_succ (iT y (List.mem_append_left _ hym))
        · rcases mem2 r hr with h | h
          · exact iR r h
          · rw [h]
            exact fun V1 h1 h2 => h2 _ (rR y hym V1 h1 h2) z hz
        · rw [← e6, List.map_append]
          rcases List.mem_append.mp hc with h | h
          · exact List.mem_append_left _ (iC c h)
          · rw [List.mem_singleton] at h
            subst h
            exact List.mem_append_right _ (by simp)
    · subst hΓ
      have hyt : (row ++ ext)[i]? = some y := by rw [List.getElem?_append_left hlt]; exact hy
      have et : (row ++ ext).take (i + 1) = row.take i ++ [y] := by
        rw [List.take_add_one, hyt, List.take_append_of_le_length hi]
        rfl
      refine ⟨n - (i + 1), by omega, row ++ ext, i + 1, _, _, _, _, rfl, rfl, by rw [List.length_append]; omega, iN, iV, iT, by rw [List.map_append]; exact List.mem_append_left _ r0, iR, fun u hu c hc => ?_⟩
      rw [et] at hu
      rcases List.mem_append.mp hu with h | h
      · rw [List.map_append]
        exact List.mem_append_left _ (rC u h c hc)
      · rw [List.mem_singleton] at h
        subst h
        exact iC c hc
  · have hge : i = row.length := by have := of_decide_eq_false hge; omega
    subst hge
    rw [List.take_length] at rC
    refine tk_f rfl ?_
    refine st_freeze 3 rfl ?_
    repeat walk_at "gm"
    refine ⟨_, rfl, fun a' b' n' e => ?_⟩
    simp only [List.cons.injEq, and_true] at e
    obtain ⟨e1, e2, e3⟩ := e
    rw [← Mach.d_inj e1, ← Mach.d_inj e2]
    refine ⟨row, ⟨r0, rN, fun q hq c hc => ?_, fun q hq => ?_⟩, rfl⟩
    · obtain ⟨r, h, rfl⟩ := List.mem_map.mp hq
      exact rC r h c hc
    · obtain ⟨r, h, rfl⟩ := List.mem_map.mp hq
      exact rR r h
theorem ok_parting (F : FnP K "parting" "parting" s_parting [] f fd) (g : Bl mg) (c : Cn mg) (h_look_at : K_look_at P w K mg base T) (h_pairs_of : K_pairs_of P w K mg base T) (h_is_parting : K_is_parting P w K mg base T) : FnOk P w K mg base CX0 6 f fd ["one", "other"] (spR w T pr_parting po_parting) := by
  refine fnR F sc_parting ?_ fun cdv A outer s H E hr => ?_
  · rintro ds h
    (repeat (obtain ⟨_, h⟩ := h))
    first
      | rfl
      | (subst h; rfl)
  have hu := hr.units
  have hu1 := hu_of hr
  have nd := sc_parting.nd
  refine ⟨_, (pss_cons (ps_expr (pe_kn h_look_at (hr.mono (by decide)) (by rfl) (pa_cons (pv 0) pa_nil)))
  (pss_cons (ps_expr (pe_kn h_look_at (hr.mono (by decide)) (by rfl) (pa_cons (pv 1) pa_nil)))
  (pss_cons (ps_asg (pe_ix (kix_seq (K := K)) (pe_kn h_pairs_of (hr.mono (by decide)) (by rfl) (pa_cons (pv 0) (pa_cons (pv 1) (pa_cons (pe_kc (by rfl) c.MOST_PAIRS) pa_nil)))) (pe_un un_neg pe_int) (fun _ _ => rfl)) (kpg_tup (K := K) (n := 2) rfl (pgs_cons (pg_name (i := 2) nd rfl (by first | exact Or.inl rfl | exact Or.inr rfl)) (pgs_cons (pg_name (i := 3) nd rfl (by first | exact Or.inl rfl | exact Or.inr rfl)) pgs_nil))))
  (pss_cons (ps_if (pt_val (pe_kn h_is_parting (hr.mono (by decide)) (by rfl) (pa_cons (pv 0) (pa_cons (pv 1) (pa_cons (pv 2) pa_nil))))) (pss_one (ps_ret (pv 3))) pss_nil)
  (pss_one (ps_ret pe_non)))))), fun H B ds hp => ?_⟩
  obtain ⟨a, b, Vp, ha, hb, hf, hV, hVn, hL, rfl⟩ := hp
  repeat walk_at "gm"
  refine ⟨⟨a, ha, rfl⟩, fun d e => ?_⟩
  repeat walk_at "gm"
  refine ⟨⟨b, hb, rfl⟩, fun d e => ?_⟩
  repeat walk_at "gm"
  refine st_asg ?_
  repeat walk_at "gm"
  refine ⟨⟨a, b, Vp, 4000, ha, hb, hf, hV, by omega, by decide, hL, rfl⟩, fun d e => ?_⟩
  obtain ⟨row, hr, rfl⟩ := e a b 4000 rfl
  have rne : row ≠ [] := fun z => by subst z; cases hr.first
  obtain ⟨x, hx, ex⟩ := itD_lastG (f := prD) rne
  have hxm : x.1 ∈ row.map (·.1) := List.mem_map_of_mem hx
  have xl := PRc.len ha hb (hr.rc x.1 hxm)
  repeat walk_at "gm"
  refine op_ix rfl rfl ex (fun _ z => by cases z) ?_
  repeat walk_at "gm"
  refine ⟨⟨a, b, x.1.1, x.1.2, _, _, xl.1, xl.2, .inl ⟨rfl, rfl⟩, rfl⟩, fun d e => ?_⟩
  rw [e a b x.1.1 x.1.2 (.inl rfl), decide_eq_true (hL _ (hr.rc x.1 hxm Vp hf hV))]
  repeat walk_at "gm"
  refine tk_f rfl ?_
  repeat walk_at "gm"
  exact ⟨_, rfl, rfl⟩
end
end Gm
namespace Gm
open PySem PySem.Spec PyProof.Rows L2
local macro_rules | `(tactic| walk_at "gm") => `(tactic| first
  | (with_reducible refine st_seq ?_)
  | ((with_reducible show Tg _ (gName _) _ _ _); refine tg_nameG rfl ?_)
  | ((with_reducible show Tg _ (gTup _ _ _) _ _ _); refine tg_tup (by rfl) ?_)
  | (with_reducible refine tgs_cons ?_)
  | (with_reducible refine tgs_nil ?_)
  | (with_reducible refine tgin_name (by decide))
  | (with_reducible refine tgin_tup ?_)
  | (with_reducible refine tgsin_cons ?_ ?_ ?_ ?_)
  | (with_reducible exact tgsin_nil)
  | (with_reducible exact tgm_name)
  | (with_reducible refine tgm_tup ?_)
  | (with_reducible refine tgsm_cons ?_ ?_)
  | (with_reducible exact tgsm_nil)
  | (with_reducible refine ev_neg ?_)
  | ((with_reducible show ∃ i, Rz.d (D.int _) = Rz.d (D.int i) ∧ _); refine ⟨_, rfl, ?_⟩)
  | (with_reducible refine it_enumG ?_)
  | (with_reducible refine it_rngG ?_)
  | (with_reducible refine st_if ?_)
  | (with_reducible refine st_ret ?_)
  | (with_reducible refine st_retN ?_)
  | (with_reducible refine st_drop ?_)
  | (with_reducible refine st_next ?_)
  | (with_reducible refine st_cont ?_)
  | (with_reducible refine et_B ?_)
  | (with_reducible refine et_test ?_)
  | (with_reducible refine et_not ?_)
  | (with_reducible refine et_and ?_)
  | (with_reducible refine et_or ?_)
  | (with_reducible refine ev_andV ?_)
  | (with_reducible refine ev_orV ?_)
  | (with_reducible refine ev_notV ?_)
  | (with_reducible refine ev_if ?_)
  | (with_reducible refine ev_chain ?_)
  | (with_reducible refine ev_op' ?_)
  | (with_reducible refine ev_tupG ?_)
  | (with_reducible refine ev_lstG ?_)
  | (with_reducible refine ev_callG rs_nil rfl rfl ?_)
  | (with_reducible refine ev_cb ?_)
  | (with_reducible refine ev_bm ?_)
  | (with_reducible refine ev_bm0 ?_)
  | (with_reducible refine ev_m1 ?_)
  | (with_reducible refine ev_slice ?_)
  | (with_reducible refine eo_none ?_)
  | (with_reducible refine eo_some ?_)
  | (with_reducible refine ea_cons' ?_)
  | (with_reducible refine ea_nil ?_)
  | ((with_reducible show Ev _ (tVar _) _ _); refine ev_var rfl rfl ?_)
  | (with_reducible refine ev_int ?_)
  | (with_reducible refine ev_str ?_)
  | (with_reducible refine ev_bl ?_)
  | (with_reducible refine ev_non ?_)
  | ((with_reducible show Ev _ (tC (V.ty _)) _ _); refine ev_cx ?_)
  | ((with_reducible show ∃ b, Rz.d (D.bl _) = Rz.d (D.bl b) ∧ _); refine ⟨_, rfl, ?_⟩)
  | ((with_reducible show ∃ ds, unDs _ = some ds ∧ _); refine ⟨_, rfl, ?_⟩)
  | ((with_reducible show List.length _ ≤ 100000 ∧ _); refine and_ble rfl ?_)
  | ((with_reducible show Cb _ (rIsi _) _ _ _); refine cb_isT rfl rfl rfl (by decide) ?_)
  | ((with_reducible show Cb _ (fun xs H Q => ∃ x n, xs = [x] ∧ LenV _ x H n ∧ Q (.int n) H) _ _ _); refine cb_lenG rfl rfl ?_)
  | ((with_reducible show Op2 _ (orR rEq _) _ _ _ _); first | refine op_eqI rfl rfl ?_ | refine op_eqS rfl rfl ?_)
  | ((with_reducible show Op2 _ (orR rNe _) _ _ _ _); first | refine op_neI rfl rfl ?_ | refine op_neB rfl rfl ?_)
  | ((with_reducible show Op2 _ (rI0 _) _ _ _ _); first | refine op_cmpI rfl rfl ?_ | refine op_subI rfl rfl ?_)
  | ((with_reducible show Op2 _ (orR (rI0 _) _) _ _ _ _); refine op_addI rfl rfl ?_)
  | ((with_reducible show Op2 _ (fun x y H Q => y = V.non ∧ _) _ _ _ _); first | refine op_is rfl rfl ?_ | refine op_isnot rfl rfl ?_)
  | ((with_reducible show Op2 _ (fun x y H Q => ∃ (c : Nat) (z : Str), x = V.str ⟨#[c]⟩ ∧ _) _ _ _ _); refine op_inSign rfl rfl ?_)
  | ((with_reducible show Op2 _ (rIx _) _ _ _ _); refine op_ix rfl rfl rfl (fun _ z => by cases z) ?_)
  | (with_reducible refine ev_newN rfl ?_)
  | (with_reducible refine ev_newI ?_)
  | ((with_reducible show Cb _ (fun xs H Q => (∃ i, xs = [V.int i] ∧ _) ∨ _) _ _ _); refine cb_intB rfl ?_)
  | ((with_reducible show Op2 _ (rIn _ _) _ _ _ _); refine op_inL rfl rfl ?_)
  | (with_reducible refine it_listG ?_)
  | (with_reducible refine et_yes ?_)
  | ((with_reducible show ∃ ds, unD _ = some (D.lst ds) ∧ _); refine ⟨_, rfl, ?_⟩)
  | ((with_reducible show ∃ ds, unDs _ = some [D.lst ds] ∧ _); refine ⟨_, rfl, ?_⟩)
  | ((with_reducible show ∃ n, unDs _ = some [iD n] ∧ _); refine ⟨_, rfl, ?_⟩)
  | ((with_reducible show (∃ d, vw _ _ = some d ∧ tyD _ d) ∧ _); refine ⟨⟨_, rfl, rfl⟩, ?_⟩)
  | ((with_reducible show Mt _ rAppend (Rz.o _) [Rz.d _] _ _); refine mt_app rfl ?_ ?_)
  | (with_reducible refine it_enumS ?_)
  | ((with_reducible show ∃ s, unDs _ = some [D.str s] ∧ _); refine ⟨_, rfl, ?_⟩))
abbrev s_closed_of : Stmt := topS 56
theorem sc_closed_of : FnScope ["one", "other", "most", "text", "error", "found", "pair"] ["one", "other", "most"] (defScope s_closed_of) := ⟨rfl, rfl, rfl, by decide +kernel, rfl, by decide +kernel, by decide +kernel⟩
abbrev s_lets_closed : Stmt := topS 62
theorem sc_lets_closed : FnScope ["one", "other", "thing", "kept", "here", "there", "sign", "pair"] ["one", "other", "thing"] (defScope s_lets_closed) := ⟨rfl, rfl, rfl, by decide +kernel, rfl, by decide +kernel, by decide +kernel⟩
def tx (a b : Mach) (p : Pr) : Str × Str := (txt a.n p.1, txt b.n p.2)
abbrev pr_closed_of (ds : List D) : Prop := ∃ (a b : Mach) (Vp : List Pr), a.Ok ∧ b.Ok ∧ (a.fs, b.fs) ∈ Vp ∧ PClosed a b Vp ∧ Vp.length ≤ 400 ∧ (∀ p ∈ Vp, a.isLast p.1 = b.isLast p.2) ∧ ds = [a.d, b.d, .int 400]
abbrev po_closed_of (ds : List D) (d : D) : Prop := ∀ (a b : Mach), a.Ok → b.Ok → ds = [a.d, b.d, .int 400] → ∃ (prs : List Pr) (bs : List (Str × Str)), PRow a b prs ∧ bs.Perm (prs.map (tx a b)) ∧ d = .lst (bs.map pairD)
abbrev K_closed_of (P : Program) (w : World) (K : PySem.W.Frag) (mg : Str → Option Value) (base : Heap) (T : List NdefX.NTab) : Prop := KnR P w K mg base T "closed_of" 7 [.int 400] pr_closed_of po_closed_of
abbrev pr_lets_closed (ds : List D) : Prop := ∃ (a b : Mach) (Vp prs : List Pr) (bs : List (Str × Str)), a.Ok ∧ b.Ok ∧ (a.fs, b.fs) ∈ Vp ∧ PClosed a b Vp ∧ Vp.length ≤ 400 ∧ (∀ p ∈ Vp, a.isLast p.1 = b.isLast p.2) ∧ PRow a b prs ∧ bs.Perm (prs.map (tx a b)) ∧ ds = [a.d, b.d, .lst (bs.map pairD)]
abbrev po_lets_closed (ds : List D) (d : D) : Prop := d = .bl true
abbrev K_lets_closed (P : Program) (w : World) (K : PySem.W.Frag) (mg : Str → Option Value) (base : Heap) (T : List NdefX.NTab) : Prop := KnR P w K mg base T "lets_closed" 8 [] pr_lets_closed po_lets_closed
section
variable {P : Program} {w : World} {K : PySem.W.Frag} {mg : Str → Option Value} {base : Heap} {T : List NdefX.NTab} {f : Addr} {fd : FuncData}
theorem ok_closed_of (F : FnP K "closed_of" "closed_of" s_closed_of [.int 400] f fd) (g : Bl mg) (c : Cn mg) (h_look_at : K_look_at P w K mg base T) (h_look_at_most : K_look_at_most P w K mg base T) (h_parting : K_parting P w K mg base T) (h_pairs_of : K_pairs_of P w K mg base T) (h_rooms_text : K_rooms_text P w K mg base T) : FnOk P w K mg base CX0 7 f fd ["one", "other", "most"] (spR w T pr_closed_of po_closed_of) := by
  refine fnR F sc_closed_of ?_ fun cdv A outer s H E hr => ?_
  · rintro ds h
    (repeat (obtain ⟨_, h⟩ := h))
    first
      | rfl
      | (subst h; rfl)
  have hu := hr.units
  have hu1 := hu_of hr
  have nd := sc_closed_of.nd
  refine ⟨_, (pss_cons (ps_expr (pe_kn h_look_at (hr.mono (by decide)) (by rfl) (pa_cons (pv 0) pa_nil)))
  (pss_cons (ps_expr (pe_kn h_look_at (hr.mono (by decide)) (by rfl) (pa_cons (pv 1) pa_nil)))
  (pss_cons (ps_expr (pe_kn h_look_at_most (hr.mono (by decide)) (by rfl) (pa_cons (pv 2) (pa_cons (pe_kc (by rfl) c.MOST_PAIRS) pa_nil))))
  (pss_cons (ps_try_thru0 (pss_one (ps_set (i := 3) nd rfl (by first | exact Or.inl rfl | exact Or.inr rfl) (pe_kn h_parting (hr.mono (by decide)) (by rfl) (pa_cons (pv 0) (pa_cons (pv 1) pa_nil))))))
  (pss_cons (ps_if (pt_cmpR op_notN (pv 3) pe_non (nomark _)) (pss_one ps_never) pss_nil)
  (pss_cons (ps_set (i := 5) nd rfl (by first | exact Or.inl rfl | exact Or.inr rfl) (pe_lst pa_nil))
  (pss_cons (ps_for PassesOwn.never rfl (kpi_seq (K := K) (pe_kn h_pairs_of (hr.mono (by decide)) (by rfl) (pa_cons (pv 0) (pa_cons (pv 1) (pa_cons (pv 2) pa_nil))))) (kpg_tup (K := K) (n := 2) rfl (pgs_cons (pg_name (i := 6) nd rfl (by first | exact Or.inl rfl | exact Or.inr rfl)) (pgs_cons (pg_name (i := 3) nd rfl (by first | exact Or.inl rfl | exact Or.inr rfl)) pgs_nil))) (pss_one (ps_expr (pe_bm PySem.F.plainAttrs_list PySem.F.slot_list_append PySem.F.type_list_append mt_append (pv 5) (pa_cons (pe_tup (pa_cons (pe_kn h_rooms_text (hr.mono (by decide)) (by rfl) (pa_cons (pv 0) (pa_cons (pe_callTy (kcall_list_of (K := K)) (by rfl) g.list boot_list (pa_cons (pe_ix (kix_seq (K := K)) (pv 6) pe_int (fun _ _ => rfl)) pa_nil)) pa_nil))) (pa_cons (pe_kn h_rooms_text (hr.mono (by decide)) (by rfl) (pa_cons (pv 1) (pa_cons (pe_callTy (kcall_list_of (K := K)) (by rfl) g.list boot_list (pa_cons (pe_ix (kix_seq (K := K)) (pv 6) pe_int (fun _ _ => rfl)) pa_nil)) pa_nil))) pa_nil))) pa_nil)))))
  (pss_one (ps_ret (pe_callB (kcr_sortedP (K := K) hu) (by rfl) g.sorted boot_sorted (pa_cons (pv 5) pa_nil))))))))))), fun H B ds hp => ?_⟩
  obtain ⟨a, b, Vp, ha, hb, hf, hV, hVn, hL, rfl⟩ := hp
  repeat walk_at "gm"
  refine ⟨⟨a, ha, rfl⟩, fun d e => ?_⟩
  repeat walk_at "gm"
  refine ⟨⟨b, hb, rfl⟩, fun d e => ?_⟩
  repeat walk_at "gm"
  refine ⟨⟨_, _, by decide, by decide, rfl⟩, fun d e => ?_⟩
  repeat walk_at "gm"
  refine st_asg ?_
  repeat walk_at "gm"
  refine ⟨⟨a, b, Vp, ha, hb, hf, hV, hVn, hL, rfl⟩, fun d e => ?_⟩
  subst e
  repeat walk_at "gm"
  refine tk_f rfl ?_
  repeat walk_at "gm"
  refine st_asg ?_
  repeat walk_at "gm"
  refine st_forX (α := Pr × List Nat) ?_
  refine it_listG ?_
  repeat walk_at "gm"
  refine ⟨⟨a, b, Vp, 400, ha, hb, hf, hV, hVn, by decide, hL, rfl⟩, fun d e => ?_⟩
  obtain ⟨row, hr, rfl⟩ := e a b 400 rfl
  have rl : row.length ≤ 400 := by
    have := nodup_sub (β := Nat) (row.map (·.1)) Vp hr.nodup fun x hx => hr.rc x hx Vp hf hV
    rw [List.length_map] at this
    omega
  refine ⟨_, rfl, fun _ r => prD r, row, fun q Γ => ∃ x y, Γ = [.dat a.d, .dat b.d, .dat (.int 400), x, .any, .ob true (.lst ((q.map fun r => tx a b r.1).map pairD)), y], idx_map prD, ⟨_, _, rfl⟩, fun q x r e Γ ⟨u, v, hΓ⟩ => ?_, fun Γ ⟨u, v, hΓ⟩ => ?_⟩
  · subst hΓ
    have hxm : x.1 ∈ row.map (·.1) := List.mem_map_of_mem (by rw [e]; simp)
    have hs := PRc.inS ha hb (hr.rc x.1 hxm)
    have ql : q.length < 400 := by rw [e, List.length_append, List.length_cons] at rl; omega
    repeat walk_at "gm"
    refine cb_listOf (.inr rfl) ?_
    repeat walk_at "gm"
    refine ⟨⟨a, x.1.1, ha, fun r hr => List.mem_range.mp (subs_sub hs.1 r hr), rfl⟩, fun d e => ?_⟩
    rw [e a x.1.1 rfl]
    repeat walk_at "gm"
    refine cb_listOf (.inr rfl) ?_
    repeat walk_at "gm"
    refine ⟨⟨b, x.1.2, hb, fun r hr => List.mem_range.mp (subs_sub hs.2 r hr), rfl⟩, fun d e => ?_⟩
    rw [e b x.1.2 rfl]
    repeat walk_at "gm"
    · rw [List.length_map, List.length_map]; omega
    exact ⟨_, _, by rw [List.map_append (l₁ := q), List.map_append (l₁ := q.map fun r => tx a b r.1)]; rfl⟩
  · subst hΓ
    repeat walk_at "gm"
    refine cb_sortedP rfl (by rw [List.length_map]; omega) fun bs' hpm => ⟨_, rfl, fun a' b' ha' hb' e => ?_⟩
    simp only [List.cons.injEq, and_true] at e
    rw [← Mach.d_inj e.1, ← Mach.d_inj e.2]
    exact ⟨row.map (·.1), bs', hr, by rw [List.map_map]; exact hpm, rfl⟩
theorem ok_lets_closed (F : FnP K "lets_closed" "lets_closed" s_lets_closed [] f fd) (g : Bl mg) (c : Cn mg) (h_look_at : K_look_at P w K mg base T) (h_is_pair : K_is_pair P w K mg base T) (h_rooms_text : K_rooms_text P w K mg base T) (h_is_parting : K_is_parting P w K mg base T) (h_rooms_of : K_rooms_of P w K mg base T) (h_both_signs : K_both_signs P w K mg base T) (h_led_text_sameness : K_led_text_sameness P w K mg base T) : FnOk P w K mg base CX0 8 f fd ["one", "other", "thing"] (spR w T pr_lets_closed po_lets_closed) := by
  refine fnR F sc_lets_closed ?_ fun cdv A outer s H E hr => ?_
  · rintro ds h
    (repeat (obtain ⟨_, h⟩ := h))
    first
      | rfl
      | (subst h; rfl)
  have hu := hr.units
  have hu1 := hu_of hr
  have nd := sc_lets_closed.nd
  refine ⟨_, (pss_cons (ps_expr (pe_kn h_look_at (hr.mono (by decide)) (by rfl) (pa_cons (pv 0) pa_nil)))
  (pss_cons (ps_expr (pe_kn h_look_at (hr.mono (by decide)) (by rfl) (pa_cons (pv 1) pa_nil)))
  (pss_cons (ps_if (PW.pt (pw_or (pt_not (pt_val (pe_callB (kcall_isi (K := K)) (by rfl) g.isinstance boot_isinstance (pa_cons (pv 2) (pa_cons (pe_bltn (v := .ty "list") (u := .type "list") (by rfl) g.list boot_list rfl) pa_nil))))) (pw_or1 (pt_not (pt_val (pe_callB (kcr_all (K := K) rfl) (by rfl) g.all boot_all (pa_cons (pe_lc (own := [("pair", 7)]) (by rfl) nd (kpi_seq (K := K) (pv 2)) (blkOk_by (own := [("pair", 7)]) (N := ["one", "other", "thing", "kept", "here", "there", "sign", "pair"]) (sc := defScope s_lets_closed) (by decide +kernel)) (fun _ _ _ _ _ => (pg_name (i := 7) nd rfl (by first | exact Or.inl rfl | exact Or.inr rfl))) (fun _ _ _ _ _ => pts_nil) (fun _ _ _ _ _ => (pe_kn h_is_pair (hr.mono (by decide)) (by rfl) (pa_cons (pv 0) (pa_cons (pv 1) (pa_cons (pv 7) pa_nil)))))) pa_nil))))))) (pss_one (ps_ret pe_bl)) pss_nil)
  (pss_cons (ps_set (i := 3) nd rfl (by first | exact Or.inl rfl | exact Or.inr rfl) (pe_callTy (kcall_dictT (w := w) hu rfl) (by rfl) g.dict boot_dict (pa_cons (pe_lc (own := [("pair", 7)]) (by rfl) nd (kpi_seq (K := K) (pv 2)) (blkOk_by (own := [("pair", 7)]) (N := ["one", "other", "thing", "kept", "here", "there", "sign", "pair"]) (sc := defScope s_lets_closed) (by decide +kernel)) (fun _ _ _ _ _ => (pg_name (i := 7) nd rfl (by first | exact Or.inl rfl | exact Or.inr rfl))) (fun _ _ _ _ _ => pts_nil) (fun _ _ _ _ _ => (pe_tup (pa_cons (pv 7) (pa_cons pe_bl pa_nil))))) pa_nil)))
  (pss_cons (ps_if (pt_cmpR (kop_notInDN (w := w) hu) (pe_tup (pa_cons (pe_kn h_rooms_text (hr.mono (by decide)) (by rfl) (pa_cons (pv 0) (pa_cons (pe_ix (kix_seq (K := K)) (pv 0) pe_int (fun _ _ => rfl)) pa_nil))) (pa_cons (pe_kn h_rooms_text (hr.mono (by decide)) (by rfl) (pa_cons (pv 1) (pa_cons (pe_ix (kix_seq (K := K)) (pv 1) pe_int (fun _ _ => rfl)) pa_nil))) pa_nil))) (pv 3) (by rfl)) (pss_one (ps_ret pe_bl)) pss_nil)
  (pss_cons (ps_for PassesOwn.never rfl (kpi_keysN (w := w) (pv 3)) (kpg_tup (K := K) (n := 2) rfl (pgs_cons (pg_name (i := 4) nd rfl (by first | exact Or.inl rfl | exact Or.inr rfl)) (pgs_cons (pg_name (i := 5) nd rfl (by first | exact Or.inl rfl | exact Or.inr rfl)) pgs_nil))) (pss_cons (ps_if (pt_val (pe_kn h_is_parting (hr.mono (by decide)) (by rfl) (pa_cons (pv 0) (pa_cons (pv 1) (pa_cons (pe_tup (pa_cons (pe_kn h_rooms_of (hr.mono (by decide)) (by rfl) (pa_cons (pv 4) pa_nil)) (pa_cons (pe_kn h_rooms_of (hr.mono (by decide)) (by rfl) (pa_cons (pv 5) pa_nil)) pa_nil))) pa_nil))))) (pss_one (ps_ret pe_bl)) pss_nil)
  (pss_one (ps_for PassesOwn.never rfl (kpi_seq (K := K) (pe_kn h_both_signs (hr.mono (by decide)) (by rfl) (pa_cons (pv 0) (pa_cons (pv 1) pa_nil)))) (pg_name (i := 6) nd rfl (by first | exact Or.inl rfl | exact Or.inr rfl)) (pss_one (ps_if (pt_cmpR (kop_notInDN (w := w) hu) (pe_tup (pa_cons (pe_kn h_led_text_sameness (hr.mono (by decide)) (by rfl) (pa_cons (pv 0) (pa_cons (pv 4) (pa_cons (pv 6) pa_nil)))) (pa_cons (pe_kn h_led_text_sameness (hr.mono (by decide)) (by rfl) (pa_cons (pv 1) (pa_cons (pv 5) (pa_cons (pv 6) pa_nil)))) pa_nil))) (pv 3) (by rfl)) (pss_one (ps_ret pe_bl)) pss_nil))))))
  (pss_one (ps_ret pe_bl)))))))), fun H B ds hp => ?_⟩
  obtain ⟨a, b, Vp, prs, bs, ha, hb, hf, hV, hVn, hL, hr, hpm, rfl⟩ := hp
  have prl : prs.length ≤ 400 := Nat.le_trans (nodup_sub (β := Nat) prs Vp hr.nodup fun x hx => hr.rc x hx Vp hf hV) hVn
  have bl : bs.length = prs.length := by rw [hpm.length_eq, List.length_map]
  have bsm : ∀ x ∈ bs, ∃ p ∈ prs, x = tx a b p := fun x hx => by
    obtain ⟨p, h, rfl⟩ := List.mem_map.mp (hpm.mem_iff.mp hx)
    exact ⟨p, h, rfl⟩
  repeat walk_at "gm"
  refine ⟨⟨a, ha, rfl⟩, fun d e => ?_⟩
  repeat walk_at "gm"
  refine ⟨⟨b, hb, rfl⟩, fun d e => ?_⟩
  repeat walk_at "gm"
  refine tk_f (by rfl) ?_
  repeat walk_at "gm"
  have inn : ∀ p ∈ prs, p.1.Pairwise (· < ·) ∧ (∀ r ∈ p.1, r < a.n) ∧ p.2.Pairwise (· < ·) ∧ (∀ r ∈ p.2, r < b.n) ∧ p.1.length ≤ 12 ∧ p.2.length ≤ 12 := fun p h => by
    have hs := PRc.inS ha hb (hr.rc p h)
    have hl := PRc.len ha hb (hr.rc p h)
    exact ⟨subs_pw (range_pw _) hs.1, fun r hr => List.mem_range.mp (subs_sub hs.1 r hr), subs_pw (range_pw _) hs.2, fun r hr => List.mem_range.mp (subs_sub hs.2 r hr), hl.1, hl.2⟩
  have bN : bs.Nodup := by
    refine hpm.nodup_iff.mpr (nodup_map_on hr.nodup fun p hp q hq e => ?_)
    obtain ⟨p1, p2, p3, p4, _⟩ := inn p hp
    obtain ⟨q1, q2, q3, q4, _⟩ := inn q hq
    have e1 := congrArg Prod.fst e
    have e2 := congrArg Prod.snd e
    exact Prod.ext (txt_inj p1 p2 q1 q2 e1).2 (txt_inj p3 p4 q3 q4 e2).2
  refine ev_lcM (fun _ x => pairD x) bs (fun _ => .bl true) (by repeat walk_at "gm") (by repeat walk_at "gm") rfl ?_
  refine it_listG ?_
  repeat walk_at "gm"
  refine ⟨by rw [List.length_map]; omega, idx_map pairD, rfl, ?_, fun i x hx Ha => ?_⟩
  rotate_left
  · obtain ⟨p, hp, rfl⟩ := bsm x (List.mem_of_getElem? hx)
    repeat walk_at "gm"
    refine ⟨⟨a, b, p.1, p.2, ha, hb, rfl⟩, fun d e => ?_⟩
    subst e
    exact ⟨rfl, rfl⟩
  repeat walk_at "gm"
  refine cb_all (bs := bs.map fun _ => true) (by rw [List.map_map]; rfl) ⟨_, rfl, ?_⟩
  have allT : (bs.map fun _ => true).all id = true := List.all_eq_true.mpr fun z hz => by
    obtain ⟨_, _, rfl⟩ := List.mem_map.mp hz
    rfl
  rw [allT]
  refine tk_f rfl ?_
  repeat walk_at "gm"
  refine st_asgF ?_
  repeat walk_at "gm"
  refine ev_lcM (fun _ x => pairD x) bs (fun x => .tup [pairD x, .bl true]) (by repeat walk_at "gm") (by repeat walk_at "gm") rfl ?_
  refine it_listG ?_
  repeat walk_at "gm"
  refine ⟨by rw [List.length_map]; omega, idx_map pairD, rfl, ?_, fun i x hx Ha => by (repeat walk_at "gm"); exact ⟨rfl, rfl⟩⟩
  repeat walk_at "gm"
  refine cb_dictT (ks := bs.map pairD) rfl (by rw [List.map_map]; rfl) (fun d hd => ?_) (by rw [List.map_map]; exact nodup_map_on bN fun x _ y _ e => ky_pairD e) (by rw [List.length_map]; omega) ?_
  · obtain ⟨x, _, rfl⟩ := List.mem_map.mp hd
    exact keyOk_pairD x
  have has : ∀ p ∈ prs, (atN ((bs.map pairD).map fun d => (d, D.bl true)) (kyD (pairD (tx a b p)))).isSome = true := fun p hp => by
    rw [atN_has (fun d : D => d) (fun _ => D.bl true), List.any_eq_true]
    exact ⟨pairD (tx a b p), List.mem_map_of_mem (hpm.mem_iff.mpr (List.mem_map_of_mem hp)), decide_eq_true rfl⟩
  repeat walk_at "gm"
  refine ⟨⟨a, a.fs, ha, ha.fsN, rfl⟩, fun d e => ?_⟩
  rw [e a a.fs rfl]
  repeat walk_at "gm"
  refine ⟨⟨b, b.fs, hb, hb.fsN, rfl⟩, fun d e => ?_⟩
  rw [e b b.fs rfl]
  repeat walk_at "gm"
  refine op_inN (dk := pairD (tx a b (a.fs, b.fs))) rfl (keyOk_pairD _) rfl rfl ⟨_, rfl, ?_⟩
  rw [has _ hr.first]
  refine tk_f rfl ?_
  repeat walk_at "gm"
  refine st_forG (fun _ x => pairD x) bs (fun q Γ => ∃ u v x, Γ = [.dat a.d, .dat b.d, .dat (.lst (bs.map pairD)), .dat (.dN ((bs.map pairD).map fun d => (d, .bl true))), u, v, x, .any]) ?_
  refine it_keysN rfl ?_
  repeat walk_at "gm"
  refine ⟨_, rfl, idx_mapE (by rw [List.map_map, List.map_map]; rfl), ⟨_, _, _, rfl⟩, fun q x r e Γ ⟨u, v, y, hΓ⟩ => ?_, fun Γ ⟨u, v, y, hΓ⟩ => ?_⟩
  · subst hΓ
    obtain ⟨p, hp, rfl⟩ := bsm x (by rw [e]; simp)
    obtain ⟨p1, p2, p3, p4, p5, p6⟩ := inn p hp
    repeat walk_at "gm"
    refine ⟨⟨a.n, p.1, ha.n2, rfl⟩, fun d e => ?_⟩
    rw [e a.n p.1 p1 p2 rfl]
    repeat walk_at "gm"
    refine ⟨⟨b.n, p.2, hb.n2, rfl⟩, fun d e => ?_⟩
    rw [e b.n p.2 p3 p4 rfl]
    repeat walk_at "gm"
    refine ⟨⟨a, b, p.1, p.2, _, _, p5, p6, .inr ⟨rfl, rfl⟩, rfl⟩, fun d e => ?_⟩
    rw [e a b p.1 p.2 (.inr rfl), decide_eq_true (hL _ (hr.rc p hp Vp hf hV))]
    repeat walk_at "gm"
    refine tk_f rfl ?_
    repeat walk_at "gm"
    refine st_forG (fun _ c => sg c) (bsig a b) (fun q2 Γ => ∃ x, Γ = [.dat a.d, .dat b.d, .dat (.lst (bs.map pairD)), .dat (.dN ((bs.map pairD).map fun d => (d, .bl true))), .dat (.str (txt a.n p.1)), .dat (.str (txt b.n p.2)), x, .any]) ?_
    refine it_listG ?_
    repeat walk_at "gm"
    refine ⟨⟨a, b, ha, hb, rfl⟩, fun d e => ?_⟩
    rw [e a b rfl]
    refine ⟨_, rfl, idx_map sg, ⟨_, rfl⟩, fun q2 c r2 e2 Γ ⟨z, hΓ⟩ => ?_, fun Γ ⟨z, hΓ⟩ => ?_⟩
    · subst hΓ
      have hc : c ∈ bsig a b := by rw [e2]; simp
      repeat walk_at "gm"
      refine ⟨⟨a, p.1, c, ha, p1, p2, rfl⟩, fun d e => ?_⟩
      rw [e a p.1 c p1 p2 rfl]
      repeat walk_at "gm"
      refine ⟨⟨b, p.2, c, hb, p3, p4, rfl⟩, fun d e => ?_⟩
      rw [e b p.2 c p3 p4 rfl]
      repeat walk_at "gm"
      refine op_inN (dk := pairD (tx a b (a.by p.1 c, b.by p.2 c))) rfl (keyOk_pairD _) rfl rfl ⟨_, rfl, ?_⟩
      rw [has _ (hr.closed p hp c hc)]
      refine tk_f rfl ?_
      repeat walk_at "gm"
      exact ⟨_, rfl⟩
    · subst hΓ
      exact ⟨_, _, _, rfl⟩
  · subst hΓ
    repeat walk_at "gm"
    exact ⟨_, rfl, rfl⟩
end
end Gm
namespace Gm
open PySem PySem.Spec PyProof.Rows L2
local macro_rules | `(tactic| walk_at "gm") => `(tactic| first
  | (with_reducible refine st_seq ?_)
  | ((with_reducible show Tg _ (gName _) _ _ _); refine tg_nameG rfl ?_)
  | ((with_reducible show Tg _ (gTup _ _ _) _ _ _); refine tg_tup (by rfl) ?_)
  | (with_reducible refine tgs_cons ?_)
  | (with_reducible refine tgs_nil ?_)
  | (with_reducible refine tgin_name (by decide))
  | (with_reducible refine tgin_tup ?_)
  | (with_reducible refine tgsin_cons ?_ ?_ ?_ ?_)
  | (with_reducible exact tgsin_nil)
  | (with_reducible exact tgm_name)
  | (with_reducible refine tgm_tup ?_)
  | (with_reducible refine tgsm_cons ?_ ?_)
  | (with_reducible exact tgsm_nil)
  | (with_reducible refine ev_neg ?_)
  | ((with_reducible show ∃ i, Rz.d (D.int _) = Rz.d (D.int i) ∧ _); refine ⟨_, rfl, ?_⟩)
  | (with_reducible refine it_enumG ?_)
  | (with_reducible refine it_rngG ?_)
  | (with_reducible refine st_if ?_)
  | (with_reducible refine st_ret ?_)
  | (with_reducible refine st_retN ?_)
  | (with_reducible refine st_drop ?_)
  | (with_reducible refine st_next ?_)
  | (with_reducible refine st_cont ?_)
  | (with_reducible refine et_B ?_)
  | (with_reducible refine et_test ?_)
  | (with_reducible refine et_not ?_)
  | (with_reducible refine et_and ?_)
  | (with_reducible refine et_or ?_)
  | (with_reducible refine ev_andV ?_)
  | (with_reducible refine ev_orV ?_)
  | (with_reducible refine ev_notV ?_)
  | (with_reducible refine ev_if ?_)
  | (with_reducible refine ev_chain ?_)
  | (with_reducible refine ev_op' ?_)
  | (with_reducible refine ev_tupG ?_)
  | (with_reducible refine ev_lstG ?_)
  | (with_reducible refine ev_callG rs_nil rfl rfl ?_)
  | (with_reducible refine ev_cb ?_)
  | (with_reducible refine ev_bm ?_)
  | (with_reducible refine ev_bm0 ?_)
  | (with_reducible refine ev_m1 ?_)
  | (with_reducible refine ev_slice ?_)
  | (with_reducible refine eo_none ?_)
  | (with_reducible refine eo_some ?_)
  | (with_reducible refine ea_cons' ?_)
  | (with_reducible refine ea_nil ?_)
  | ((with_reducible show Ev _ (tVar _) _ _); refine ev_var rfl rfl ?_)
  | (with_reducible refine ev_int ?_)
  | (with_reducible refine ev_str ?_)
  | (with_reducible refine ev_bl ?_)
  | (with_reducible refine ev_non ?_)
  | ((with_reducible show Ev _ (tC (V.ty _)) _ _); refine ev_cx ?_)
  | ((with_reducible show ∃ b, Rz.d (D.bl _) = Rz.d (D.bl b) ∧ _); refine ⟨_, rfl, ?_⟩)
  | ((with_reducible show ∃ ds, unDs _ = some ds ∧ _); refine ⟨_, rfl, ?_⟩)
  | ((with_reducible show List.length _ ≤ 100000 ∧ _); refine and_ble rfl ?_)
  | ((with_reducible show Cb _ (rIsi _) _ _ _); refine cb_isT rfl rfl rfl (by decide) ?_)
  | ((with_reducible show Cb _ (fun xs H Q => ∃ x n, xs = [x] ∧ LenV _ x H n ∧ Q (.int n) H) _ _ _); refine cb_lenG rfl rfl ?_)
  | ((with_reducible show Op2 _ (orR rEq _) _ _ _ _); first | refine op_eqI rfl rfl ?_ | refine op_eqS rfl rfl ?_)
  | ((with_reducible show Op2 _ (orR rNe _) _ _ _ _); first | refine op_neI rfl rfl ?_ | refine op_neB rfl rfl ?_)
  | ((with_reducible show Op2 _ (rI0 _) _ _ _ _); first | refine op_cmpI rfl rfl ?_ | refine op_subI rfl rfl ?_)
  | ((with_reducible show Op2 _ (orR (rI0 _) _) _ _ _ _); refine op_addI rfl rfl ?_)
  | ((with_reducible show Op2 _ (fun x y H Q => y = V.non ∧ _) _ _ _ _); first | refine op_is rfl rfl ?_ | refine op_isnot rfl rfl ?_)
  | ((with_reducible show Op2 _ (fun x y H Q => ∃ (c : Nat) (z : Str), x = V.str ⟨#[c]⟩ ∧ _) _ _ _ _); refine op_inSign rfl rfl ?_)
  | ((with_reducible show Op2 _ (rIx _) _ _ _ _); refine op_ix rfl rfl rfl (fun _ z => by cases z) ?_)
  | (with_reducible refine ev_newN rfl ?_)
  | (with_reducible refine ev_newI ?_)
  | ((with_reducible show Cb _ (fun xs H Q => (∃ i, xs = [V.int i] ∧ _) ∨ _) _ _ _); refine cb_intB rfl ?_)
  | ((with_reducible show Op2 _ (rIn _ _) _ _ _ _); refine op_inL rfl rfl ?_)
  | (with_reducible refine it_listG ?_)
  | (with_reducible refine et_yes ?_)
  | ((with_reducible show ∃ ds, unD _ = some (D.lst ds) ∧ _); refine ⟨_, rfl, ?_⟩)
  | ((with_reducible show ∃ ds, unDs _ = some [D.lst ds] ∧ _); refine ⟨_, rfl, ?_⟩)
  | ((with_reducible show ∃ n, unDs _ = some [iD n] ∧ _); refine ⟨_, rfl, ?_⟩)
  | ((with_reducible show (∃ d, vw _ _ = some d ∧ tyD _ d) ∧ _); refine ⟨⟨_, rfl, rfl⟩, ?_⟩)
  | ((with_reducible show Mt _ rAppend (Rz.o _) [Rz.d _] _ _); refine mt_app rfl ?_ ?_)
  | (with_reducible refine it_enumS ?_)
  | ((with_reducible show ∃ s, unDs _ = some [D.str s] ∧ _); refine ⟨_, rfl, ?_⟩))
abbrev s__law_draw : Stmt := topS 72
theorem sc__law_draw : FnScope ["_law_hand_here", "_law_many", "_law_found"] ["_law_hand_here", "_law_many"] (defScope s__law_draw) := ⟨rfl, rfl, rfl, by decide +kernel, rfl, by decide +kernel, by decide +kernel⟩
def HandOk (d : D) : Prop := ∃ x y : Int, 0 ≤ x ∧ 0 ≤ y ∧ y < 2147483647 ∧ d = .lst [.int x, .int y]
abbrev pr__law_draw (ds : List D) : Prop := ∃ (d0 : D) (n : Nat), HandOk d0 ∧ 1 ≤ n ∧ n ≤ 1000 ∧ ds = [d0, iD n]
abbrev po__law_draw (ds : List D) (d1 d : D) : Prop := HandOk d1 ∧ ∀ (d0 : D) (n : Nat), ds = [d0, iD n] → ∃ r, r < n ∧ d = iD r
abbrev K__law_draw (P : Program) (w : World) (K : PySem.W.Frag) (mg : Str → Option Value) (base : Heap) (T : List NdefX.NTab) : Prop := Kn P w K mg base "_law_draw" 1 [] (spM w T pr__law_draw po__law_draw)
theorem cut_head (ns : List Int) (lo hi : Option Int) : ∃ c : Int, itD (.lst (cutD (ns.map D.int) lo hi ++ [.int 0])) 0 = some (.int c) ∧ (c = 0 ∨ c ∈ ns) := by
  have key : ∀ l : List D, (∀ d ∈ l, ∃ c ∈ ns, d = D.int c) → ∃ c : Int, itD (.lst (l ++ [.int 0])) 0 = some (.int c) ∧ (c = 0 ∨ c ∈ ns) := by
    intro l hl
    cases l with
    | nil => exact ⟨0, rfl, .inl rfl⟩
    | cons d l =>
      obtain ⟨c, hc, rfl⟩ := hl d List.mem_cons_self
      refine ⟨c, ?_, .inr hc⟩
      show atI (.int c :: (l ++ [.int 0])) 0 = _
      unfold atI ixN
      rw [if_pos (by decide), if_pos (by simp only [List.length_cons]; omega)]
      rfl
  refine key _ fun d hd => ?_
  unfold cutD at hd
  obtain ⟨c, hc, rfl⟩ := List.mem_map.mp (List.mem_of_mem_drop (List.mem_of_mem_take hd))
  exact ⟨c, hc, rfl⟩
theorem log_lt {i : Int} (h0 : 0 ≤ i) (h : i < 2 ^ 60) : i.natAbs.log2 < 60 := by
  have h1 : i.natAbs < 2 ^ 60 := by omega
  exact PySem.Flt.log2_lt_of (by decide) h1
section
variable {P : Program} {w : World} {K : PySem.W.Frag} {mg : Str → Option Value} {base : Heap} {T : List NdefX.NTab} {f : Addr} {fd : FuncData}
theorem ok__law_draw (F : FnP K "_law_draw" "_law_draw" s__law_draw [] f fd) (g : Bl mg) (c : Cn mg) : FnOk P w K mg base CX0 1 f fd ["_law_hand_here", "_law_many"] (spM w T pr__law_draw po__law_draw) := by
  refine fnM F sc__law_draw ?_ fun cdv A outer s H E hr => ?_
  · rintro ds ⟨_, _, _, _, _, rfl⟩; rfl
  have hu := hr.units
  have nd := sc__law_draw.nd
  refine ⟨_, (pss_cons (ps_if (pt_cmpR op_gt (pe_ix (kix_seq (K := K)) (pv 0) pe_int (fun _ _ => rfl)) pe_int (nomark _)) (pss_cons (ps_set (i := 2) nd rfl (by first | exact Or.inl rfl | exact Or.inr rfl) (pe_op op_mod (pe_ix (kix_seq (K := K)) (pv 0) pe_int (fun _ _ => rfl)) (pv 1)))
  (pss_cons (ps_asg (pe_op op_fdivW (pe_ix (kix_seq (K := K)) (pv 0) pe_int (fun _ _ => rfl)) (pv 1)) (pg_sub (pv 0) pe_int set_list))
  (pss_one (ps_ret (pv 2))))) pss_nil)
  (pss_cons (ps_asg (pe_op op_mod (pe_op op_ADD (pe_op op_mulX (pe_ix (kix_seq (K := K)) (pv 0) pe_int (fun _ _ => rfl)) pe_int) pe_int) pe_int) (pg_sub (pv 0) pe_int set_list))
  (pss_one (ps_ret (pe_op op_mod (pe_op op_fdivW (pe_op op_mod (pe_op op_mulX (pe_ix (kix_seq (K := K)) (pv 0) pe_int (fun _ _ => rfl)) (pe_ix (kix_seq (K := K)) (pv 0) pe_int (fun _ _ => rfl))) pe_int) pe_int) (pv 1)))))), fun H B p d0 ds hp => ?_⟩
  obtain ⟨d0', n, ⟨x, y, hx, hy, hy2, rfl⟩, h1, h2, e⟩ := hp
  cases e
  repeat walk_at "gm"
  have mn : (0 : Int) < (n : Int) := by omega
  have nlog : ((n : Int)).natAbs.log2 < 9000 := by
    have := log_lt (i := (n : Int)) (by omega) (by omega)
    omega
  refine tk_b (fun hb => ?_) fun hb => ?_
  · have hb := of_decide_eq_true hb
    repeat walk_at "gm"
    refine st_asg ?_
    repeat walk_at "gm"
    refine op_I (i := x) (j := (n : Int)) rfl rfl mn (fun B => .int _) ?_
    repeat walk_at "gm"
    refine st_putL ?_
    repeat walk_at "gm"
    refine op_I (i := x) (j := (n : Int)) rfl rfl ⟨mn, nlog⟩ (fun B => .int _) ⟨_, rfl, ⟨_, _, rfl⟩, ?_⟩
    repeat walk_at "gm"
    refine ⟨_, _, 0, rfl, rfl, by show 0 < 2; decide, ?_⟩
    repeat walk_at "gm"
    have q1 := Int.emod_nonneg x (show (n : Int) ≠ 0 by omega)
    have q2 := Int.emod_lt_of_pos x mn
    refine ⟨_, _, rfl, rfl, ⟨x / n, y, Int.ediv_nonneg hx (by omega), hy, hy2, rfl⟩, fun d0 n' e => ⟨(x % n).toNat, ?_, ?_⟩⟩
    · simp only [List.cons.injEq, and_true] at e
      have := iD_inj e.2
      omega
    · show D.int _ = D.int _
      rw [Int.toNat_of_nonneg q1]
  · repeat walk_at "gm"
    have q1 := Int.emod_nonneg (y * 48271 + 11) (show (2147483647 : Int) ≠ 0 by decide)
    have q2 := Int.emod_lt_of_pos (y * 48271 + 11) (show (0 : Int) < 2147483647 by decide)
    refine st_putL ?_
    repeat walk_at "gm"
    refine op_I (i := y) (j := 48271) rfl rfl ?_ (fun B => .int _) ?_
    · have := log_lt (i := y) hy (by omega)
      have h2 : (48271 : Int).natAbs.log2 < 60 := log_lt (by decide) (by decide)
      show _ + _ < 100000000
      omega
    repeat walk_at "gm"
    refine op_I rfl rfl (by decide) (fun B => .int _) ⟨_, rfl, ⟨_, _, rfl⟩, ?_⟩
    repeat walk_at "gm"
    refine ⟨_, _, 1, rfl, rfl, by show 1 < 2; decide, ?_⟩
    generalize (y * 48271 + 11) % 2147483647 = z at q1 q2 ⊢
    repeat walk_at "gm"
    refine op_I (i := z) (j := z) rfl rfl ?_ (fun B => .int _) ?_
    · have := log_lt (i := z) q1 (by omega)
      show _ + _ < 100000000
      omega
    repeat walk_at "gm"
    refine op_I rfl rfl (by decide) (fun B => .int _) ?_
    repeat walk_at "gm"
    refine op_I rfl rfl ⟨by decide, by decide⟩ (fun B => .int _) ?_
    repeat walk_at "gm"
    refine op_I (j := (n : Int)) rfl rfl mn (fun B => .int _) ?_
    have q3 := Int.emod_nonneg (z * z % 2147483629 / 64) (show (n : Int) ≠ 0 by omega)
    have q4 := Int.emod_lt_of_pos (z * z % 2147483629 / 64) mn
    refine ⟨_, _, rfl, rfl, ⟨x, z, hx, q1, q2, rfl⟩, fun d0 n' e => ⟨(z * z % 2147483629 / 64 % n).toNat, ?_, ?_⟩⟩
    · simp only [List.cons.injEq, and_true] at e
      have := iD_inj e.2
      omega
    · show D.int _ = D.int _
      rw [Int.toNat_of_nonneg q3]
end
end Gm
namespace Gm
open PySem PySem.Spec PyProof.Rows L2
local macro_rules | `(tactic| walk_at "gm") => `(tactic| first
  | (with_reducible refine st_seq ?_)
  | ((with_reducible show Tg _ (gName _) _ _ _); refine tg_nameG rfl ?_)
  | ((with_reducible show Tg _ (gTup _ _ _) _ _ _); refine tg_tup (by rfl) ?_)
  | (with_reducible refine tgs_cons ?_)
  | (with_reducible refine tgs_nil ?_)
  | (with_reducible refine tgin_name (by decide))
  | (with_reducible refine tgin_tup ?_)
  | (with_reducible refine tgsin_cons ?_ ?_ ?_ ?_)
  | (with_reducible exact tgsin_nil)
  | (with_reducible exact tgm_name)
  | (with_reducible refine tgm_tup ?_)
  | (with_reducible refine tgsm_cons ?_ ?_)
  | (with_reducible exact tgsm_nil)
  | (with_reducible refine ev_neg ?_)
  | ((with_reducible show ∃ i, Rz.d (D.int _) = Rz.d (D.int i) ∧ _); refine ⟨_, rfl, ?_⟩)
  | (with_reducible refine it_enumG ?_)
  | (with_reducible refine it_rngG ?_)
  | (with_reducible refine st_if ?_)
  | (with_reducible refine st_ret ?_)
  | (with_reducible refine st_retN ?_)
  | (with_reducible refine st_drop ?_)
  | (with_reducible refine st_next ?_)
  | (with_reducible refine st_cont ?_)
  | (with_reducible refine et_B ?_)
  | (with_reducible refine et_test ?_)
  | (with_reducible refine et_not ?_)
  | (with_reducible refine et_and ?_)
  | (with_reducible refine et_or ?_)
  | (with_reducible refine ev_andV ?_)
  | (with_reducible refine ev_orV ?_)
  | (with_reducible refine ev_notV ?_)
  | (with_reducible refine ev_if ?_)
  | (with_reducible refine ev_chain ?_)
  | (with_reducible refine ev_op' ?_)
  | (with_reducible refine ev_tupG ?_)
  | (with_reducible refine ev_lstG ?_)
  | (with_reducible refine ev_callG rs_nil rfl rfl ?_)
  | (with_reducible refine ev_cb ?_)
  | (with_reducible refine ev_bm ?_)
  | (with_reducible refine ev_bm0 ?_)
  | (with_reducible refine ev_m1 ?_)
  | (with_reducible refine ev_slice ?_)
  | (with_reducible refine eo_none ?_)
  | (with_reducible refine eo_some ?_)
  | (with_reducible refine ea_cons' ?_)
  | (with_reducible refine ea_nil ?_)
  | ((with_reducible show Ev _ (tVar _) _ _); refine ev_var rfl rfl ?_)
  | (with_reducible refine ev_int ?_)
  | (with_reducible refine ev_str ?_)
  | (with_reducible refine ev_bl ?_)
  | (with_reducible refine ev_non ?_)
  | ((with_reducible show Ev _ (tC (V.ty _)) _ _); refine ev_cx ?_)
  | ((with_reducible show ∃ b, Rz.d (D.bl _) = Rz.d (D.bl b) ∧ _); refine ⟨_, rfl, ?_⟩)
  | ((with_reducible show ∃ ds, unDs _ = some ds ∧ _); refine ⟨_, rfl, ?_⟩)
  | ((with_reducible show List.length _ ≤ 100000 ∧ _); refine and_ble rfl ?_)
  | ((with_reducible show Cb _ (rIsi _) _ _ _); refine cb_isT rfl rfl rfl (by decide) ?_)
  | ((with_reducible show Cb _ (fun xs H Q => ∃ x n, xs = [x] ∧ LenV _ x H n ∧ Q (.int n) H) _ _ _); refine cb_lenG rfl rfl ?_)
  | ((with_reducible show Op2 _ (orR rEq _) _ _ _ _); first | refine op_eqI rfl rfl ?_ | refine op_eqS rfl rfl ?_)
  | ((with_reducible show Op2 _ (orR rNe _) _ _ _ _); first | refine op_neI rfl rfl ?_ | refine op_neB rfl rfl ?_)
  | ((with_reducible show Op2 _ (rI0 _) _ _ _ _); first | refine op_cmpI rfl rfl ?_ | refine op_subI rfl rfl ?_)
  | ((with_reducible show Op2 _ (orR (rI0 _) _) _ _ _ _); refine op_addI rfl rfl ?_)
  | ((with_reducible show Op2 _ (fun x y H Q => y = V.non ∧ _) _ _ _ _); first | refine op_is rfl rfl ?_ | refine op_isnot rfl rfl ?_)
  | ((with_reducible show Op2 _ (fun x y H Q => ∃ (c : Nat) (z : Str), x = V.str ⟨#[c]⟩ ∧ _) _ _ _ _); refine op_inSign rfl rfl ?_)
  | ((with_reducible show Op2 _ (rIx _) _ _ _ _); refine op_ix rfl rfl rfl (fun _ z => by cases z) ?_)
  | (with_reducible refine ev_newN rfl ?_)
  | (with_reducible refine ev_newI ?_)
  | ((with_reducible show Cb _ (fun xs H Q => (∃ i, xs = [V.int i] ∧ _) ∨ _) _ _ _); refine cb_intB rfl ?_)
  | ((with_reducible show Op2 _ (rIn _ _) _ _ _ _); refine op_inL rfl rfl ?_)
  | (with_reducible refine it_listG ?_)
  | (with_reducible refine et_yes ?_)
  | ((with_reducible show ∃ ds, unD _ = some (D.lst ds) ∧ _); refine ⟨_, rfl, ?_⟩)
  | ((with_reducible show ∃ ds, unDs _ = some [D.lst ds] ∧ _); refine ⟨_, rfl, ?_⟩)
  | ((with_reducible show ∃ n, unDs _ = some [iD n] ∧ _); refine ⟨_, rfl, ?_⟩)
  | ((with_reducible show (∃ d, vw _ _ = some d ∧ tyD _ d) ∧ _); refine ⟨⟨_, rfl, rfl⟩, ?_⟩)
  | ((with_reducible show Mt _ rAppend (Rz.o _) [Rz.d _] _ _); refine mt_app rfl ?_ ?_)
  | (with_reducible refine it_enumS ?_)
  | ((with_reducible show ∃ s, unDs _ = some [D.str s] ∧ _); refine ⟨_, rfl, ?_⟩))
abbrev s__law_rooms : Stmt := topS 73
theorem sc__law_rooms : FnScope ["_law_hand_here", "_law_many", "_law_most", "_law_room"] ["_law_hand_here", "_law_many", "_law_most"] (defScope s__law_rooms) := ⟨rfl, rfl, rfl, by decide +kernel, rfl, by decide +kernel, by decide +kernel⟩
abbrev s__law_machine : Stmt := topS 74
theorem sc__law_machine : FnScope ["_law_hand_here", "_law_most", "_law_steps", "_law_many", "_law_signs_here", "_law_firsts", "_law_lasts", "_law_found", "_law_k", "_law_one"] ["_law_hand_here", "_law_most", "_law_steps"] (defScope s__law_machine) := ⟨rfl, rfl, rfl, by decide +kernel, rfl, by decide +kernel, by decide +kernel⟩
abbrev pr__law_rooms (ds : List D) : Prop := ∃ (d0 : D) (n : Nat) (m : Int), HandOk d0 ∧ n ≤ 12 ∧ ds = [d0, iD n, .int m]
abbrev po__law_rooms (ds : List D) (d1 d : D) : Prop := HandOk d1 ∧ ∀ (d0 : D) (n : Nat) (m : Int), ds = [d0, iD n, .int m] → ∃ rs : List Nat, rs.Pairwise (· < ·) ∧ (∀ r ∈ rs, r < n) ∧ d = iLs rs
abbrev K__law_rooms (P : Program) (w : World) (K : PySem.W.Frag) (mg : Str → Option Value) (base : Heap) (T : List NdefX.NTab) : Prop := Kn P w K mg base "_law_rooms" 2 [] (spM w T pr__law_rooms po__law_rooms)
abbrev pr__law_machine (ds : List D) : Prop := ∃ (d0 : D), HandOk d0 ∧ ds = [d0, .int 4, .int 10]
abbrev po__law_machine (ds : List D) (d1 d : D) : Prop := HandOk d1 ∧ ∃ m : Mach, m.Ok ∧ m.n ≤ 4 ∧ m.st.length ≤ 10 ∧ d = m.d
abbrev K__law_machine (P : Program) (w : World) (K : PySem.W.Frag) (mg : Str → Option Value) (base : Heap) (T : List NdefX.NTab) : Prop := Kn P w K mg base "_law_machine" 3 [] (spM w T pr__law_machine po__law_machine)
def stepsD (st : List (Nat × Nat × Nat)) : List (D × D) := st.map fun s => (stD s, D.bl true)
theorem steps_put {st : List (Nat × Nat × Nat)} (s : Nat × Nat × Nat) : stN (stepsD st) (stD s) (.bl true) = if s ∈ st then stepsD st else stepsD (st ++ [s]) := by
  unfold stepsD
  by_cases h : s ∈ st
  · rw [if_pos h]
    unfold stN
    rw [atN_has (fun s => stD s) (fun _ => D.bl true), if_pos (List.any_eq_true.mpr ⟨s, h, decide_eq_true rfl⟩), List.map_map]
    refine List.map_congr_left fun x _ => ?_
    by_cases e : kyD (stD x) = kyD (stD s)
    · simp [Function.comp, e]
    · simp [Function.comp, e]
  · rw [if_neg h, stN_new (atN_none (f := stD) (g := fun _ => D.bl true) fun a ha z => h (by rw [← ky_step z]; exact ha)), List.map_append]
    rfl
theorem itD_str {cs : List Nat} {j : Nat} {c : Nat} (h : cs[j]? = some c) : itD (.str (mkS cs)) (j : Int) = some (sg c) := by
  have hl := (List.getElem?_eq_some_iff.mp h).1
  show (atI (mkS cs).cps.toList (j : Int)).map (fun c => D.str ⟨#[c]⟩) = _
  have e : (mkS cs).cps.toList = cs := by simp [mkS]
  rw [e]
  unfold atI ixN
  rw [if_pos (Int.natCast_nonneg j), if_pos (by omega)]
  simp [h]
  rfl
theorem five (r : Nat) (h : r < 5) : ∃ cs : List Nat, 1 ≤ cs.length ∧ cs.length ≤ 4 ∧ (∀ c ∈ cs, isL c) ∧ itD (.lst [.str (Str.ofString "a"), .str (Str.ofString "ab"), .str (Str.ofString "abc"), .str (Str.ofString "azm"), .str (Str.ofString "zyxw")]) (r : Int) = some (.str (mkS cs)) := by
  match r, h with
  | 0, _ => exact ⟨[97], by decide, by decide, by decide, rfl⟩
  | 1, _ => exact ⟨[97, 98], by decide, by decide, by decide, rfl⟩
  | 2, _ => exact ⟨[97, 98, 99], by decide, by decide, by decide, rfl⟩
  | 3, _ => exact ⟨[97, 122, 109], by decide, by decide, by decide, rfl⟩
  | 4, _ => exact ⟨[122, 121, 120, 119], by decide, by decide, by decide, rfl⟩
section
variable {P : Program} {w : World} {K : PySem.W.Frag} {mg : Str → Option Value} {base : Heap} {T : List NdefX.NTab} {f : Addr} {fd : FuncData}
theorem ok__law_rooms (F : FnP K "_law_rooms" "_law_rooms" s__law_rooms [] f fd) (g : Bl mg) (c : Cn mg) (h__law_draw : K__law_draw P w K mg base T) : FnOk P w K mg base CX0 2 f fd ["_law_hand_here", "_law_many", "_law_most"] (spM w T pr__law_rooms po__law_rooms) := by
  refine fnM F sc__law_rooms ?_ fun cdv A outer s H E hr => ?_
  · rintro ds ⟨_, _, _, _, _, rfl⟩; rfl
  have hu := hr.units
  have nd := sc__law_rooms.nd
  refine ⟨_, (pss_one (ps_ret (pe_lc (own := [("_law_room", 3)]) (by rfl) nd (pi_range1 (by rfl) g.range (pa_cons (pv 1) pa_nil)) (blkOk_by (own := [("_law_room", 3)]) (N := ["_law_hand_here", "_law_many", "_law_most", "_law_room"]) (sc := defScope s__law_rooms) (by decide +kernel)) (fun _ _ _ _ _ => (pg_name (i := 3) nd rfl (by first | exact Or.inl rfl | exact Or.inr rfl))) (fun _ _ _ _ _ => (pts_one (pt_cmpR op_lt (pe_kn h__law_draw (hr.mono (by decide)) (by rfl) (pa_cons (pv 0) (pa_cons pe_int pa_nil))) (pv 2) (nomark _)))) (fun _ _ _ _ _ => (pv 3))))), fun H B p d0 ds hp => ?_⟩
  obtain ⟨d0', n, mm, hh, hn, e⟩ := hp
  cases e
  repeat walk_at "gm"
  refine ev_lcRX (fun _ i => iD i) (List.range n) (fun q m Γ => ∃ d1 x, HandOk d1 ∧ x.isOb = false ∧ Γ = [.ob false d1, .dat (iD n), .dat (.int mm), x] ∧ ∃ rs : List Nat, m = rs.map iD ∧ rs.Pairwise (· < ·) ∧ ∀ r ∈ rs, r ∈ q) (by repeat walk_at "gm") (by repeat walk_at "gm") ?_
  repeat walk_at "gm"
  refine ⟨by omega, by rw [List.length_map, List.length_range]; omega, idx_map iD, ⟨d0, .any, hh, rfl, rfl, [], rfl, .nil, by simp⟩, fun m Γ ⟨d1, x, h1, hx, hΓ, rs, hm, hs, hr⟩ => ?_, fun q x r e m Γ ⟨d1, y, h1, hy, hΓ, rs, hm, hs, hr⟩ => ?_⟩
  · subst hΓ hm
    refine ⟨d1, _, rfl, rfl, h1, fun d0 n' m' e => ⟨rs, hs, fun r h => ?_, rfl⟩⟩
    simp only [List.cons.injEq, and_true] at e
    have := iD_inj e.2.1
    subst this
    exact List.mem_range.mp (hr r h)
  · subst hΓ hm
    refine ⟨by show (!y.isOb && true) = true; rw [hy]; rfl, fun Ha => ?_⟩
    have hq : ∀ r ∈ q, r < x := fun r h => by
      have := range_pw n
      rw [e] at this
      exact (List.pairwise_append.mp this).2.2 r h x List.mem_cons_self
    repeat walk_at "gm"
    refine ev_callM rfl rfl ?_
    repeat walk_at "gm"
    refine ⟨0, _, d1, _, _, rfl, rfl, rfl, ⟨d1, 4, h1, by decide, by decide, rfl⟩, fun d2 d ⟨h2, h3⟩ => ?_⟩
    obtain ⟨r, hr4, rfl⟩ := h3 d1 4 rfl
    repeat walk_at "gm"
    refine tk_b (fun _ => ?_) fun _ => ?_
    · repeat walk_at "gm"
      refine ⟨_, rfl, d2, y, h2, hy, rfl, rs ++ [x], by rw [List.map_append]; rfl, List.pairwise_append.mpr ⟨hs, List.pairwise_singleton _ _, fun a ha b hb => ?_⟩, fun a ha => ?_⟩
      · rw [List.mem_singleton] at hb
        subst hb
        exact hq a (hr a ha)
      · rcases List.mem_append.mp ha with h | h
        · exact List.mem_append_left _ (hr a h)
        · exact List.mem_append_right _ h
    · exact ⟨d2, y, h2, hy, rfl, rs, rfl, hs, fun a ha => List.mem_append_left _ (hr a ha)⟩
theorem ok__law_machine (F : FnP K "_law_machine" "_law_machine" s__law_machine [] f fd) (g : Bl mg) (c : Cn mg) (h__law_draw : K__law_draw P w K mg base T) (h__law_rooms : K__law_rooms P w K mg base T) : FnOk P w K mg base CX0 3 f fd ["_law_hand_here", "_law_most", "_law_steps"] (spM w T pr__law_machine po__law_machine) := by
  refine fnM F sc__law_machine ?_ fun cdv A outer s H E hr => ?_
  · rintro ds ⟨_, _, rfl⟩; rfl
  have hu := hr.units
  have nd := sc__law_machine.nd
  refine ⟨_, (pss_cons (ps_set (i := 3) nd rfl (by first | exact Or.inl rfl | exact Or.inr rfl) (pe_op op_ADD pe_int (pe_kn h__law_draw (hr.mono (by decide)) (by rfl) (pa_cons (pv 0) (pa_cons (pv 1) pa_nil)))))
  (pss_cons (ps_set (i := 4) nd rfl (by first | exact Or.inl rfl | exact Or.inr rfl) (pe_ix (kix_seq (K := K)) (pe_lst (pa_cons pe_str (pa_cons pe_str (pa_cons pe_str (pa_cons pe_str (pa_cons pe_str pa_nil)))))) (pe_kn h__law_draw (hr.mono (by decide)) (by rfl) (pa_cons (pv 0) (pa_cons pe_int pa_nil))) (fun _ _ => rfl)))
  (pss_cons (ps_set (i := 5) nd rfl (by first | exact Or.inl rfl | exact Or.inr rfl) (pe_kn h__law_rooms (hr.mono (by decide)) (by rfl) (pa_cons (pv 0) (pa_cons (pv 3) (pa_cons (pe_op op_ADD pe_int (pe_kn h__law_draw (hr.mono (by decide)) (by rfl) (pa_cons (pv 0) (pa_cons pe_int pa_nil)))) pa_nil)))))
  (pss_cons (ps_set (i := 6) nd rfl (by first | exact Or.inl rfl | exact Or.inr rfl) (pe_kn h__law_rooms (hr.mono (by decide)) (by rfl) (pa_cons (pv 0) (pa_cons (pv 3) (pa_cons (pe_op op_ADD pe_int (pe_kn h__law_draw (hr.mono (by decide)) (by rfl) (pa_cons (pv 0) (pa_cons pe_int pa_nil)))) pa_nil)))))
  (pss_cons (ps_set (i := 7) nd rfl (by first | exact Or.inl rfl | exact Or.inr rfl) (kpe (t' := tNewN w) pe_dnewN))
  (pss_cons (ps_for PassesOwn.never rfl (pi_range1 (by rfl) g.range (pa_cons (pe_kn h__law_draw (hr.mono (by decide)) (by rfl) (pa_cons (pv 0) (pa_cons (pe_op op_ADD (pv 2) pe_int) pa_nil))) pa_nil)) (pg_name (i := 8) nd rfl (by first | exact Or.inl rfl | exact Or.inr rfl)) (pss_cons (ps_set (i := 9) nd rfl (by first | exact Or.inl rfl | exact Or.inr rfl) (pe_kn h__law_draw (hr.mono (by decide)) (by rfl) (pa_cons (pv 0) (pa_cons (pv 3) pa_nil))))
  (pss_one (ps_asg pe_bl (pg_sub (pv 7) (pe_tup (pa_cons (pv 9) (pa_cons (pe_ix (kix_seq (K := K)) (pv 4) (pe_kn h__law_draw (hr.mono (by decide)) (by rfl) (pa_cons (pv 0) (pa_cons (pe_callB (kcall_len (K := K)) (by rfl) g.len boot_len (pa_cons (pv 4) pa_nil)) pa_nil))) (fun _ _ => rfl)) (pa_cons (pe_kn h__law_draw (hr.mono (by decide)) (by rfl) (pa_cons (pv 0) (pa_cons (pv 3) pa_nil))) pa_nil)))) (kset_dN (w := w) hu))))))
  (pss_one (ps_ret (pe_tup (pa_cons (pv 3) (pa_cons (pv 5) (pa_cons (pv 6) (pa_cons (pe_callTy (kcall_listN (w := w) rfl) (by rfl) g.list boot_list (pa_cons (pv 7) pa_nil)) pa_nil))))))))))))), fun H B p d0 ds hp => ?_⟩
  obtain ⟨d0', hh, e⟩ := hp
  cases e
  repeat walk_at "gm"
  refine st_asg ?_
  repeat walk_at "gm"
  refine ev_callM rfl rfl ?_
  repeat walk_at "gm"
  refine ⟨0, _, d0, _, _, rfl, rfl, rfl, ⟨d0, 4, hh, by decide, by decide, rfl⟩, fun d1 d ⟨hh1, h3⟩ => ?_⟩
  obtain ⟨n0, hn0, rfl⟩ := h3 d0 4 rfl
  clear h3
  repeat walk_at "gm"
  have e1 : D.int (1 + (n0 : Int)) = iD (n0 + 1) := by unfold iD; congr 1; omega
  rw [e1]
  generalize hn : n0 + 1 = n
  have n1 : 1 ≤ n := by omega
  have n4 : n ≤ 4 := by omega
  clear hn e1
  refine st_asg ?_
  repeat walk_at "gm"
  refine ev_callM rfl rfl ?_
  repeat walk_at "gm"
  refine ⟨0, _, d1, _, _, rfl, rfl, rfl, ⟨d1, 5, hh1, by decide, by decide, rfl⟩, fun d2 d ⟨hh2, h3⟩ => ?_⟩
  obtain ⟨r5, hr5, rfl⟩ := h3 d1 5 rfl
  clear h3
  obtain ⟨cs, cs1, cs4, csL, hcs⟩ := five r5 hr5
  refine op_ix rfl rfl hcs (fun _ z => by cases z) ?_
  repeat walk_at "gm"
  refine st_asg ?_
  refine ev_callM rfl rfl ?_
  repeat walk_at "gm"
  refine ev_callM rfl rfl ?_
  repeat walk_at "gm"
  refine ⟨0, _, d2, _, _, rfl, rfl, rfl, ⟨d2, 2, hh2, by decide, by decide, rfl⟩, fun d3 d ⟨hh3, h3⟩ => ?_⟩
  obtain ⟨r2, hr2, rfl⟩ := h3 d2 2 rfl
  clear h3
  repeat walk_at "gm"
  refine ⟨0, _, d3, _, _, rfl, rfl, rfl, ⟨d3, n, _, hh3, by omega, rfl⟩, fun d4 d ⟨hh4, h3⟩ => ?_⟩
  obtain ⟨fs, fsS, fsN, rfl⟩ := h3 d3 n _ rfl
  clear h3
  repeat walk_at "gm"
  refine st_asg ?_
  refine ev_callM rfl rfl ?_
  repeat walk_at "gm"
  refine ev_callM rfl rfl ?_
  repeat walk_at "gm"
  refine ⟨0, _, d4, _, _, rfl, rfl, rfl, ⟨d4, 3, hh4, by decide, by decide, rfl⟩, fun d5 d ⟨hh5, h3⟩ => ?_⟩
  obtain ⟨r3, hr3, rfl⟩ := h3 d4 3 rfl
  clear h3
  repeat walk_at "gm"
  refine ⟨0, _, d5, _, _, rfl, rfl, rfl, ⟨d5, n, _, hh5, by omega, rfl⟩, fun d6 d ⟨hh6, h3⟩ => ?_⟩
  obtain ⟨ls, lsS, lsN, rfl⟩ := h3 d5 n _ rfl
  clear h3
  repeat walk_at "gm"
  refine st_asg ?_
  repeat walk_at "gm"
  refine st_forX (α := Nat) ?_
  repeat walk_at "gm"
  refine ev_callM rfl rfl ?_
  repeat walk_at "gm"
  refine ⟨0, _, d6, _, _, rfl, rfl, rfl, ⟨d6, 11, hh6, by decide, by decide, rfl⟩, fun d7 d ⟨hh7, h3⟩ => ?_⟩
  obtain ⟨r11, hr11, rfl⟩ := h3 d6 11 rfl
  clear h3
  repeat walk_at "gm"
  refine ⟨by omega, fun _ i => iD i, List.range r11, fun q Γ => ∃ (dh : D) (st : List (Nat × Nat × Nat)) (a b : Kd), HandOk dh ∧ Γ = [.ob false dh, .dat (.int 4), .dat (.int 10), .dat (iD n), .dat (.str (mkS cs)), .dat (iLs fs), .dat (iLs ls), .ob true (.dN (stepsD st)), a, b] ∧ st.Nodup ∧ st.length ≤ q.length ∧ ∀ s ∈ st, s.1 < n ∧ isL s.2.1 ∧ s.2.2 < n, idx_map iD, ⟨d7, [], _, _, hh7, rfl, .nil, by simp, by simp⟩, fun q x r e Γ ⟨dh, st, a, b, hdh, hΓ, sN, sL, sV⟩ => ?_, fun Γ ⟨dh, st, a, b, hdh, hΓ, sN, sL, sV⟩ => ?_⟩
  · subst hΓ
    have ql : q.length < 11 := by
      have := congrArg List.length e
      rw [List.length_range, List.length_append, List.length_cons] at this
      omega
    repeat walk_at "gm"
    refine st_asg ?_
    refine ev_callM rfl rfl ?_
    repeat walk_at "gm"
    refine ⟨0, _, dh, _, _, rfl, rfl, rfl, ⟨dh, n, hdh, n1, by omega, rfl⟩, fun d8 d ⟨hh8, h3⟩ => ?_⟩
    obtain ⟨one, hone, rfl⟩ := h3 dh n rfl
    clear h3
    repeat walk_at "gm"
    refine st_putN rfl ?_
    repeat walk_at "gm"
    refine ⟨_, rfl, ⟨_, _, rfl⟩, ?_⟩
    repeat walk_at "gm"
    refine ev_callM rfl rfl ?_
    repeat walk_at "gm"
    refine ⟨by rw [mkS_len]; omega, ?_⟩
    rw [mkS_len]
    repeat walk_at "gm"
    refine ⟨0, _, d8, _, _, rfl, rfl, rfl, ⟨d8, cs.length, hh8, cs1, by omega, rfl⟩, fun d9 d ⟨hh9, h3⟩ => ?_⟩
    obtain ⟨rc, hrc, rfl⟩ := h3 d8 cs.length rfl
    clear h3
    refine op_ix rfl rfl (itD_str (List.getElem?_eq_getElem hrc)) (fun s z => by cases z; rw [mkS_len]; omega) ?_
    repeat walk_at "gm"
    refine ev_callM rfl rfl ?_
    repeat walk_at "gm"
    refine ⟨0, _, d9, _, _, rfl, rfl, rfl, ⟨d9, n, hh9, n1, by omega, rfl⟩, fun d10 d ⟨hh10, h3⟩ => ?_⟩
    obtain ⟨to, hto, rfl⟩ := h3 d9 n rfl
    clear h3
    repeat walk_at "gm"
    refine ⟨_, stepsD st, stD (one, cs[rc], to), rfl, keyOk_step _, rfl, by unfold stepsD; rw [List.length_map]; omega, ?_⟩
    rw [steps_put]
    by_cases hin : (one, cs[rc], to) ∈ st
    · rw [if_pos hin]
      exact ⟨d10, st, _, _, hh10, rfl, sN, by rw [List.length_append]; omega, sV⟩
    · rw [if_neg hin]
      refine ⟨d10, st ++ [(one, cs[rc], to)], _, _, hh10, rfl, List.nodup_append.mpr ⟨sN, List.pairwise_singleton _ _, fun u hu v hv => ?_⟩, by simp only [List.length_append, List.length_singleton]; omega, fun s hs => ?_⟩
      · rw [List.mem_singleton] at hv
        subst hv
        exact fun z => hin (z ▸ hu)
      · rcases List.mem_append.mp hs with h | h
        · exact sV s h
        · rw [List.mem_singleton] at h
          subst h
          exact ⟨hone, csL _ (List.getElem_mem hrc), hto⟩
  · subst hΓ
    rw [List.length_range] at sL
    repeat walk_at "gm"
    refine cb_listN rfl rfl ?_
    repeat walk_at "gm"
    refine ⟨dh, _, rfl, rfl, hdh, ⟨n, fs, ls, st⟩, ⟨n1, by show n ≤ 12; omega, fsS, fsN, lsS, lsN, sV, sN, by show st.length ≤ 200; omega⟩, n4, by show st.length ≤ 10; omega, ?_⟩
    unfold stepsD Mach.d
    rw [List.map_map]
    rfl
end
end Gm
namespace Gm
open PySem PySem.Spec PyProof.Rows L2
local macro_rules | `(tactic| walk_at "gm") => `(tactic| first
  | (with_reducible refine st_seq ?_)
  | ((with_reducible show Tg _ (gName _) _ _ _); refine tg_nameG rfl ?_)
  | ((with_reducible show Tg _ (gTup _ _ _) _ _ _); refine tg_tup (by rfl) ?_)
  | (with_reducible refine tgs_cons ?_)
  | (with_reducible refine tgs_nil ?_)
  | (with_reducible refine tgin_name (by decide))
  | (with_reducible refine tgin_tup ?_)
  | (with_reducible refine tgsin_cons ?_ ?_ ?_ ?_)
  | (with_reducible exact tgsin_nil)
  | (with_reducible exact tgm_name)
  | (with_reducible refine tgm_tup ?_)
  | (with_reducible refine tgsm_cons ?_ ?_)
  | (with_reducible exact tgsm_nil)
  | (with_reducible refine ev_neg ?_)
  | ((with_reducible show ∃ i, Rz.d (D.int _) = Rz.d (D.int i) ∧ _); refine ⟨_, rfl, ?_⟩)
  | (with_reducible refine it_enumG ?_)
  | (with_reducible refine it_rngG ?_)
  | (with_reducible refine st_if ?_)
  | (with_reducible refine st_ret ?_)
  | (with_reducible refine st_retN ?_)
  | (with_reducible refine st_drop ?_)
  | (with_reducible refine st_next ?_)
  | (with_reducible refine st_cont ?_)
  | (with_reducible refine et_B ?_)
  | (with_reducible refine et_test ?_)
  | (with_reducible refine et_not ?_)
  | (with_reducible refine et_and ?_)
  | (with_reducible refine et_or ?_)
  | (with_reducible refine ev_andV ?_)
  | (with_reducible refine ev_orV ?_)
  | (with_reducible refine ev_notV ?_)
  | (with_reducible refine ev_if ?_)
  | (with_reducible refine ev_chain ?_)
  | (with_reducible refine ev_op' ?_)
  | (with_reducible refine ev_tupG ?_)
  | (with_reducible refine ev_lstG ?_)
  | (with_reducible refine ev_callG rs_nil rfl rfl ?_)
  | (with_reducible refine ev_cb ?_)
  | (with_reducible refine ev_bm ?_)
  | (with_reducible refine ev_bm0 ?_)
  | (with_reducible refine ev_m1 ?_)
  | (with_reducible refine ev_slice ?_)
  | (with_reducible refine eo_none ?_)
  | (with_reducible refine eo_some ?_)
  | (with_reducible refine ea_cons' ?_)
  | (with_reducible refine ea_nil ?_)
  | ((with_reducible show Ev _ (tVar _) _ _); refine ev_var rfl rfl ?_)
  | (with_reducible refine ev_int ?_)
  | (with_reducible refine ev_str ?_)
  | (with_reducible refine ev_bl ?_)
  | (with_reducible refine ev_non ?_)
  | ((with_reducible show Ev _ (tC (V.ty _)) _ _); refine ev_cx ?_)
  | ((with_reducible show ∃ b, Rz.d (D.bl _) = Rz.d (D.bl b) ∧ _); refine ⟨_, rfl, ?_⟩)
  | ((with_reducible show ∃ ds, unDs _ = some ds ∧ _); refine ⟨_, rfl, ?_⟩)
  | ((with_reducible show List.length _ ≤ 100000 ∧ _); refine and_ble rfl ?_)
  | ((with_reducible show Cb _ (rIsi _) _ _ _); refine cb_isT rfl rfl rfl (by decide) ?_)
  | ((with_reducible show Cb _ (fun xs H Q => ∃ x n, xs = [x] ∧ LenV _ x H n ∧ Q (.int n) H) _ _ _); refine cb_lenG rfl rfl ?_)
  | ((with_reducible show Op2 _ (orR rEq _) _ _ _ _); first | refine op_eqI rfl rfl ?_ | refine op_eqS rfl rfl ?_)
  | ((with_reducible show Op2 _ (orR rNe _) _ _ _ _); first | refine op_neI rfl rfl ?_ | refine op_neB rfl rfl ?_)
  | ((with_reducible show Op2 _ (rI0 _) _ _ _ _); first | refine op_cmpI rfl rfl ?_ | refine op_subI rfl rfl ?_)
  | ((with_reducible show Op2 _ (orR (rI0 _) _) _ _ _ _); refine op_addI rfl rfl ?_)
  | ((with_reducible show Op2 _ (fun x y H Q => y = V.non ∧ _) _ _ _ _); first | refine op_is rfl rfl ?_ | refine op_isnot rfl rfl ?_)
  | ((with_reducible show Op2 _ (fun x y H Q => ∃ (c : Nat) (z : Str), x = V.str ⟨#[c]⟩ ∧ _) _ _ _ _); refine op_inSign rfl rfl ?_)
  | ((with_reducible show Op2 _ (rIx _) _ _ _ _); refine op_ix rfl rfl rfl (fun _ z => by cases z) ?_)
  | (with_reducible refine ev_newN rfl ?_)
  | (with_reducible refine ev_newI ?_)
  | ((with_reducible show Cb _ (fun xs H Q => (∃ i, xs = [V.int i] ∧ _) ∨ _) _ _ _); refine cb_intB rfl ?_)
  | ((with_reducible show Op2 _ (rIn _ _) _ _ _ _); refine op_inL rfl rfl ?_)
  | (with_reducible refine it_listG ?_)
  | (with_reducible refine et_yes ?_)
  | ((with_reducible show ∃ ds, unD _ = some (D.lst ds) ∧ _); refine ⟨_, rfl, ?_⟩)
  | ((with_reducible show ∃ ds, unDs _ = some [D.lst ds] ∧ _); refine ⟨_, rfl, ?_⟩)
  | ((with_reducible show ∃ n, unDs _ = some [iD n] ∧ _); refine ⟨_, rfl, ?_⟩)
  | ((with_reducible show (∃ d, vw _ _ = some d ∧ tyD _ d) ∧ _); refine ⟨⟨_, rfl, rfl⟩, ?_⟩)
  | ((with_reducible show Mt _ rAppend (Rz.o _) [Rz.d _] _ _); refine mt_app rfl ?_ ?_)
  | (with_reducible refine it_enumS ?_)
  | ((with_reducible show ∃ s, unDs _ = some [D.str s] ∧ _); refine ⟨_, rfl, ?_⟩))
abbrev s__law_signs : Stmt := topS 75
theorem sc__law_signs : FnScope ["_law_own", "_law_step"] ["_law_own"] (defScope s__law_signs) := ⟨rfl, rfl, rfl, by decide +kernel, rfl, by decide +kernel, by decide +kernel⟩
abbrev s__law_led : Stmt := topS 76
theorem sc__law_led : FnScope ["_law_own", "_law_rooms_here", "_law_sign", "_law_found", "_law_room", "_law_one"] ["_law_own", "_law_rooms_here", "_law_sign"] (defScope s__law_led) := ⟨rfl, rfl, rfl, by decide +kernel, rfl, by decide +kernel, by decide +kernel⟩
abbrev s__law_after : Stmt := topS 78
theorem sc__law_after : FnScope ["_law_own", "_law_text", "_law_rooms_here", "_law_sign"] ["_law_own", "_law_text"] (defScope s__law_after) := ⟨rfl, rfl, rfl, by decide +kernel, rfl, by decide +kernel, by decide +kernel⟩
abbrev s__law_fit : Stmt := topS 79
theorem sc__law_fit : FnScope ["_law_own", "_law_text", "_law_room"] ["_law_own", "_law_text"] (defScope s__law_fit) := ⟨rfl, rfl, rfl, by decide +kernel, rfl, by decide +kernel, by decide +kernel⟩

abbrev pr__law_signs (ds : List D) : Prop := ∃ (m : Mach), m.Ok ∧ ds = [m.d]
abbrev po__law_signs (ds : List D) (d : D) : Prop := ∀ (m : Mach), ds = [m.d] → d = m.sigD
abbrev K__law_signs (P : Program) (w : World) (K : PySem.W.Frag) (mg : Str → Option Value) (base : Heap) (T : List NdefX.NTab) : Prop := KnR P w K mg base T "_law_signs" 1 [] pr__law_signs po__law_signs
abbrev pr__law_led (ds : List D) : Prop := ∃ (m : Mach) (rs : List Nat) (c : Nat), m.Ok ∧ isL c ∧ rs.length ≤ 12 ∧ ds = [m.d, iLs rs, sg c]
abbrev po__law_led (ds : List D) (d : D) : Prop := ∀ (m : Mach) (rs : List Nat) (c : Nat), ds = [m.d, iLs rs, sg c] → d = iLs (m.by rs c)
abbrev K__law_led (P : Program) (w : World) (K : PySem.W.Frag) (mg : Str → Option Value) (base : Heap) (T : List NdefX.NTab) : Prop := KnR P w K mg base T "_law_led" 1 [] pr__law_led po__law_led
def Mach.after (m : Mach) (ws : List Nat) : List Nat := ws.foldl m.by m.fs
abbrev pr__law_after (ds : List D) : Prop := ∃ (m : Mach) (ws : List Nat), m.Ok ∧ (∀ c ∈ ws, isL c) ∧ ds = [m.d, .str (mkS ws)]
abbrev po__law_after (ds : List D) (d : D) : Prop := ∀ (m : Mach) (ws : List Nat), ds = [m.d, .str (mkS ws)] → d = iLs (m.after ws)
abbrev K__law_after (P : Program) (w : World) (K : PySem.W.Frag) (mg : Str → Option Value) (base : Heap) (T : List NdefX.NTab) : Prop := KnR P w K mg base T "_law_after" 2 [] pr__law_after po__law_after
abbrev pr__law_fit (ds : List D) : Prop := pr__law_after ds
abbrev po__law_fit (ds : List D) (d : D) : Prop := ∀ (m : Mach) (ws : List Nat), ds = [m.d, .str (mkS ws)] → d = .bl (m.isLast (m.after ws))
abbrev K__law_fit (P : Program) (w : World) (K : PySem.W.Frag) (mg : Str → Option Value) (base : Heap) (T : List NdefX.NTab) : Prop := KnR P w K mg base T "_law_fit" 3 [] pr__law_fit po__law_fit
theorem Mach.after_len {m : Mach} (hm : m.Ok) (ws : List Nat) : (m.after ws).length ≤ 12 := by
  have key : ∀ (ws : List Nat) (S : List Nat), S.length ≤ 12 → (ws.foldl m.by S).length ≤ 12 := by
    intro ws
    induction ws with
    | nil => intro S h; exact h
    | cons c ws ih =>
      intro S _
      refine ih _ ?_
      have := List.length_filter_le (fun t => m.st.any fun s => s.2.1 == c && decide (s.1 ∈ S) && s.2.2 == t) (List.range m.n)
      rw [List.length_range] at this
      exact Nat.le_trans this hm.n2
  exact key ws m.fs (nodup_len 12 _ (hm.fsS.imp fun h => Nat.ne_of_lt h) fun r hr => Nat.lt_of_lt_of_le (hm.fsN r hr) hm.n2)
theorem ky_stD_any {st : List (Nat × Nat × Nat)} (s : Nat × Nat × Nat) : ((st.map stD).any fun z => eqD z (stD s)) = decide (s ∈ st) := by
  rw [List.any_map, Bool.eq_iff_iff, List.any_eq_true, decide_eq_true_eq]
  constructor
  · rintro ⟨x, hx, h⟩
    have h2 : eqD (stD x) (stD s) = true := h
    rw [eqD_ky _ _ rfl rfl] at h2
    rw [← ky_step (of_decide_eq_true h2)]
    exact hx
  · intro h
    refine ⟨s, h, ?_⟩
    show eqD (stD s) (stD s) = true
    rw [eqD_ky _ _ rfl rfl]
    exact decide_eq_true rfl
theorem sh_stD {n : Nat} {s : Nat × Nat × Nat} (h : isL s.2.1) : Sh (n + 1) (stD s) := sh_tup fun d hd => by
  rcases List.mem_cons.mp hd with rfl | hd
  · exact sh_int _
  · rcases List.mem_cons.mp hd with rfl | hd
    · refine sh_str fun c hc => ?_
      have : c = s.2.1 := by simpa [s1] using hc
      subst this
      exact Nat.lt_trans h.2 (by decide)
    · rw [List.mem_singleton] at hd
      subst hd
      exact sh_int _
theorem hu65 {A : Around} {k : Nat} (hr : Room k A) : A.units + 65 < cLine := by have := hr.un; omega
def Mach.inBy (m : Mach) (rs : List Nat) (c t : Nat) : Bool := m.st.any fun s => s.2.1 == c && decide (s.1 ∈ rs) && s.2.2 == t
theorem by_filter (m : Mach) (rs : List Nat) (c : Nat) : m.by rs c = (List.range m.n).filter (m.inBy rs c) := rfl
theorem inBy_eq (m : Mach) (rs : List Nat) (c t : Nat) : (!(rs.filter fun r => decide ((r, c, t) ∈ m.st)).isEmpty) = m.inBy rs c t := by
  rw [Bool.eq_iff_iff]
  unfold Mach.inBy
  rw [List.any_eq_true]
  constructor
  · intro h
    cases hl : rs.filter fun r => decide ((r, c, t) ∈ m.st) with
    | nil => rw [hl] at h; cases h
    | cons r l =>
      have hr : r ∈ rs.filter fun r => decide ((r, c, t) ∈ m.st) := by rw [hl]; exact List.mem_cons_self
      obtain ⟨h1, h2⟩ := List.mem_filter.mp hr
      exact ⟨(r, c, t), of_decide_eq_true h2, by simp [h1]⟩
  · rintro ⟨⟨r, c', t'⟩, h1, h2⟩
    simp only [Bool.and_eq_true, beq_iff_eq, decide_eq_true_eq] at h2
    obtain ⟨⟨rfl, h3⟩, rfl⟩ := h2
    have hr : r ∈ rs.filter fun r => decide ((r, c', t') ∈ m.st) := List.mem_filter.mpr ⟨h3, decide_eq_true h1⟩
    cases hl : rs.filter fun r => decide ((r, c', t') ∈ m.st) with
    | nil => rw [hl] at hr; cases hr
    | cons a l => rfl
section
variable {P : Program} {w : World} {K : PySem.W.Frag} {mg : Str → Option Value} {base : Heap} {T : List NdefX.NTab} {f : Addr} {fd : FuncData}
theorem ok__law_signs (F : FnP K "_law_signs" "_law_signs" s__law_signs [] f fd) (g : Bl mg) (c : Cn mg)  : FnOk P w K mg base CX0 1 f fd ["_law_own"] (spR w T pr__law_signs po__law_signs) := by
  refine fnR F sc__law_signs ?_ fun cdv A outer s H E hr => ?_
  · rintro ds h
    (repeat (obtain ⟨_, h⟩ := h))
    first
      | rfl
      | (subst h; rfl)
  have hu := hr.units
  have hu1 := hu_of hr
  have nd := sc__law_signs.nd
  refine ⟨_, (pss_one (ps_ret (kpe (t' := tSortedSet K _) (pe_sortedSet (by rfl) g.sorted (by rfl) g.set rfl (pe_lc (own := [("_law_step", 1)]) (by rfl) nd (kpi_seq (K := K) (pe_ix (kix_seq (K := K)) (pv 0) pe_int (fun _ _ => rfl))) (blkOk_by (own := [("_law_step", 1)]) (N := ["_law_own", "_law_step"]) (sc := defScope s__law_signs) (by decide +kernel)) (fun _ _ _ _ _ => (pg_name (i := 1) nd rfl (by first | exact Or.inl rfl | exact Or.inr rfl))) (fun _ _ _ _ _ => pts_nil) (fun _ _ _ _ _ => (pe_ix (kix_seq (K := K)) (pv 1) pe_int (fun _ _ => rfl)))))))), fun H B ds hp => ?_⟩
  obtain ⟨m, hm, rfl⟩ := hp
  repeat walk_at "gm"
  refine ev_sortedS ?_
  refine ev_lcM (fun _ s => stD s) m.st (fun s => sg s.2.1) (by repeat walk_at "gm") (by repeat walk_at "gm") rfl ?_
  repeat walk_at "gm"
  have hl := hm.stL
  refine ⟨by rw [List.length_map]; omega, idx_map stD, rfl, ⟨m.st.map (·.2.1), by rw [List.map_map]; rfl, by rw [List.length_map]; omega, sig_len fun c hc => ?_, fun cs' hs hmem => ?_⟩, fun i x hx Ha => ?_⟩
  · obtain ⟨s, h1, rfl⟩ := List.mem_map.mp hc
    exact (hm.stN s h1).2.1
  · refine ⟨_, rfl, fun m' e => ?_⟩
    simp only [List.cons.injEq, and_true] at e
    rw [← Mach.d_inj e]
    have : cs' = m.sig := sorted_eqN hs m.sig_pw fun x => by rw [hmem, Mach.mem_sig hm, List.mem_map]
    rw [this]
    rfl
  · repeat walk_at "gm"
    exact ⟨rfl, rfl⟩
theorem ok__law_led (F : FnP K "_law_led" "_law_led" s__law_led [] f fd) (g : Bl mg) (c : Cn mg)  : FnOk P w K mg base CX0 1 f fd ["_law_own", "_law_rooms_here", "_law_sign"] (spR w T pr__law_led po__law_led) := by
  refine fnR F sc__law_led ?_ fun cdv A outer s H E hr => ?_
  · rintro ds h
    (repeat (obtain ⟨_, h⟩ := h))
    first
      | rfl
      | (subst h; rfl)
  have hu := hr.units
  have hu1 := hu_of hr
  have hu2 := hu65 hr
  have nd := sc__law_led.nd
  refine ⟨_, (pss_cons (ps_set (i := 3) nd rfl (by first | exact Or.inl rfl | exact Or.inr rfl) (pe_lst pa_nil))
  (pss_cons (ps_for PassesOwn.never rfl (pi_range1 (by rfl) g.range (pa_cons (pe_ix (kix_seq (K := K)) (pv 0) pe_int (fun _ _ => rfl)) pa_nil)) (pg_name (i := 4) nd rfl (by first | exact Or.inl rfl | exact Or.inr rfl)) (pss_one (ps_if (pt_cmpR (kop_NE (K := K) hu) (pe_lc (own := [("_law_one", 5)]) (by rfl) nd (kpi_seq (K := K) (pv 1)) (blkOk_by (own := [("_law_one", 5)]) (N := ["_law_own", "_law_rooms_here", "_law_sign", "_law_found", "_law_room", "_law_one"]) (sc := defScope s__law_led) (by decide +kernel)) (fun _ _ _ _ _ => (pg_name (i := 5) nd rfl (by first | exact Or.inl rfl | exact Or.inr rfl))) (fun _ _ _ _ _ => (pts_one (pt_cmpR (kop_inD (K := K) hu2) (pe_tup (pa_cons (pv 5) (pa_cons (pv 2) (pa_cons (pv 4) pa_nil)))) (pe_ix (kix_seq (K := K)) (pv 0) pe_int (fun _ _ => rfl)) (by rfl)))) (fun _ _ _ _ _ => (pv 5))) (pe_lst pa_nil) (nomark _)) (pss_one (ps_expr (pe_bm PySem.F.plainAttrs_list PySem.F.slot_list_append PySem.F.type_list_append mt_append (pv 3) (pa_cons (pv 4) pa_nil)))) pss_nil)))
  (pss_one (ps_ret (pv 3))))), fun H B ds hp => ?_⟩
  obtain ⟨m, rs, c, hm, hc, hrs, rfl⟩ := hp
  have h12 := hm.n2
  repeat walk_at "gm"
  refine st_asg ?_
  repeat walk_at "gm"
  refine st_forG (fun _ i => iD i) (List.range m.n) (fun q Γ => ∃ x y, y.isOb = false ∧ Γ = [.dat m.d, .dat (iLs rs), .dat (sg c), .ob true (iLs (q.filter (m.inBy rs c))), x, y]) ?_
  repeat walk_at "gm"
  refine ⟨by omega, idx_map iD, ⟨_, _, rfl, rfl⟩, fun q t r e Γ ⟨x, y, hy, hΓ⟩ => ?_, fun Γ ⟨x, y, hy, hΓ⟩ => ?_⟩
  · subst hΓ
    have ql : q.length < 12 := by
      have := congrArg List.length e
      rw [List.length_range, List.length_append, List.length_cons] at this
      omega
    repeat walk_at "gm"
    refine ev_lcP (fun _ r => iD r) rs (fun r => decide ((r, c, t) ∈ m.st)) iD (by repeat walk_at "gm") (by repeat walk_at "gm") (by show (!y.isOb && true) = true; rw [hy]; rfl) ?_
    refine it_listG ?_
    repeat walk_at "gm"
    refine ⟨by rw [List.length_map]; omega, idx_map iD, rfl, ?_, fun i r hr Ha => ?_⟩
    · repeat walk_at "gm"
      refine op_neP (d1 := iLs (rs.filter fun r => decide ((r, c, t) ∈ m.st))) rfl rfl (sh_iLs _) sh_nil ⟨_, rfl, ?_⟩
      rw [eqD_iLs, inBy_eq]
      refine tk_b (fun hb => ?_) fun hb => ?_
      · repeat walk_at "gm"
        · rw [List.length_map]
          have := List.length_filter_le (m.inBy rs c) q
          omega
        exact ⟨_, _, hy, by rw [List.filter_append, List.filter_cons_of_pos hb]; unfold iLs; rw [List.map_append]; rfl⟩
      · repeat walk_at "gm"
        exact ⟨_, _, hy, by rw [List.filter_append, List.filter_cons_of_neg (by rw [hb]; decide), List.filter_nil, List.append_nil]; rfl⟩
    · repeat walk_at "gm"
      refine op_inP (ds := m.st.map stD) rfl rfl (sh_stD (n := 59) (s := (r, c, t)) hc) (fun d hd => ?_) ⟨_, rfl, ky_stD_any (st := m.st) (r, c, t), fun _ => ?_, fun _ => rfl⟩
      · obtain ⟨s, hs, rfl⟩ := List.mem_map.mp hd
        exact sh_stD (n := 58) (hm.stN s hs).2.1
      · repeat walk_at "gm"
        exact ⟨rfl, rfl⟩
  · subst hΓ
    refine st_freeze 3 rfl ?_
    repeat walk_at "gm"
    refine ⟨_, rfl, fun m' rs' c' e => ?_⟩
    simp only [List.cons.injEq, and_true] at e
    rw [← Mach.d_inj e.1, ← iLs_inj e.2.1, ← sg_inj e.2.2]
    rfl
theorem ok__law_after (F : FnP K "_law_after" "_law_after" s__law_after [] f fd) (g : Bl mg) (c : Cn mg) (h__law_led : K__law_led P w K mg base T) : FnOk P w K mg base CX0 2 f fd ["_law_own", "_law_text"] (spR w T pr__law_after po__law_after) := by
  refine fnR F sc__law_after ?_ fun cdv A outer s H E hr => ?_
  · rintro ds h
    (repeat (obtain ⟨_, h⟩ := h))
    first
      | rfl
      | (subst h; rfl)
  have hu := hr.units
  have hu1 := hu_of hr
  have nd := sc__law_after.nd
  refine ⟨_, (pss_cons (ps_set (i := 2) nd rfl (by first | exact Or.inl rfl | exact Or.inr rfl) (pe_callTy (kcall_list_of (K := K)) (by rfl) g.list boot_list (pa_cons (pe_ix (kix_seq (K := K)) (pv 0) pe_int (fun _ _ => rfl)) pa_nil)))
  (pss_cons (ps_for PassesOwn.never rfl (kpi_seq (K := K) (pv 1)) (pg_name (i := 3) nd rfl (by first | exact Or.inl rfl | exact Or.inr rfl)) (pss_one (ps_set (i := 2) nd rfl (by first | exact Or.inl rfl | exact Or.inr rfl) (pe_kn h__law_led (hr.mono (by decide)) (by rfl) (pa_cons (pv 0) (pa_cons (pv 2) (pa_cons (pv 3) pa_nil)))))))
  (pss_one (ps_ret (pv 2))))), fun H B ds hp => ?_⟩
  obtain ⟨m, ws, hm, hc, rfl⟩ := hp
  repeat walk_at "gm"
  refine st_asgF ?_
  repeat walk_at "gm"
  refine cb_listOf (.inl rfl) ?_
  repeat walk_at "gm"
  refine st_forG (fun _ c => sg c) ws (fun q Γ => ∃ x, Γ = [.dat m.d, .dat (.str (mkS ws)), .dat (iLs (m.after q)), x]) ?_
  refine it_strG ?_
  repeat walk_at "gm"
  refine ⟨_, rfl, idx_str ws, ⟨_, rfl⟩, fun q x r e Γ ⟨u, hΓ⟩ => ?_, fun Γ ⟨u, hΓ⟩ => ?_⟩
  · subst hΓ
    have hx := hc x (by rw [e]; simp)
    repeat walk_at "gm"
    refine st_asg ?_
    repeat walk_at "gm"
    refine ⟨⟨m, m.after q, x, hm, hx, m.after_len hm q, rfl⟩, fun d e => ?_⟩
    rw [e m (m.after q) x rfl]
    repeat walk_at "gm"
    exact ⟨_, by unfold Mach.after; rw [List.foldl_append]; rfl⟩
  · subst hΓ
    repeat walk_at "gm"
    refine ⟨_, rfl, fun m' ws' e => ?_⟩
    simp only [List.cons.injEq, and_true, D.str.injEq] at e
    rw [← Mach.d_inj e.1, ← mkS_inj e.2]
theorem ok__law_fit (F : FnP K "_law_fit" "_law_fit" s__law_fit [] f fd) (g : Bl mg) (c : Cn mg) (h__law_after : K__law_after P w K mg base T) : FnOk P w K mg base CX0 3 f fd ["_law_own", "_law_text"] (spR w T pr__law_fit po__law_fit) := by
  refine fnR F sc__law_fit ?_ fun cdv A outer s H E hr => ?_
  · rintro ds h
    (repeat (obtain ⟨_, h⟩ := h))
    first
      | rfl
      | (subst h; rfl)
  have hu := hr.units
  have hu1 := hu_of hr
  have nd := sc__law_fit.nd
  refine ⟨_, (pss_one (ps_ret (pe_cmpR (kop_NE (K := K) hu) (pe_lc (own := [("_law_room", 2)]) (by rfl) nd (kpi_seq (K := K) (pe_kn h__law_after (hr.mono (by decide)) (by rfl) (pa_cons (pv 0) (pa_cons (pv 1) pa_nil)))) (blkOk_by (own := [("_law_room", 2)]) (N := ["_law_own", "_law_text", "_law_room"]) (sc := defScope s__law_fit) (by decide +kernel)) (fun _ _ _ _ _ => (pg_name (i := 2) nd rfl (by first | exact Or.inl rfl | exact Or.inr rfl))) (fun _ _ _ _ _ => (pts_one (pt_cmpR (kop_in (K := K)) (pv 2) (pe_ix (kix_seq (K := K)) (pv 0) pe_int (fun _ _ => rfl)) (by rfl)))) (fun _ _ _ _ _ => (pv 2))) (pe_lst pa_nil) (nomark _)))), fun H B ds hp => ?_⟩
  obtain ⟨m, ws, hm, hc, rfl⟩ := hp
  have hal := m.after_len hm ws
  repeat walk_at "gm"
  refine ev_lcP (fun _ r => iD r) (m.after ws) (fun r => decide (r ∈ m.ls)) iD (by repeat walk_at "gm") (by repeat walk_at "gm") rfl ?_
  refine it_listG ?_
  repeat walk_at "gm"
  refine ⟨⟨m, ws, hm, hc, rfl⟩, fun d e => ?_⟩
  rw [e m ws rfl]
  refine ⟨_, rfl, by rw [List.length_map]; omega, idx_map iD, rfl, ?_, fun i r hr Ha => ?_⟩
  · repeat walk_at "gm"
    refine op_neP (d1 := iLs ((m.after ws).filter fun r => decide (r ∈ m.ls))) rfl rfl (sh_iLs _) sh_nil ⟨_, rfl, fun m' ws' e => ?_⟩
    simp only [List.cons.injEq, and_true, D.str.injEq] at e
    rw [← Mach.d_inj e.1, ← mkS_inj e.2, eqD_iLs]
    refine congrArg D.bl ?_
    unfold Mach.isLast
    rw [Bool.eq_iff_iff, List.any_eq_true]
    constructor
    · intro h
      cases hl : (m.after ws).filter fun r => decide (r ∈ m.ls) with
      | nil => rw [hl] at h; cases h
      | cons r l =>
        have hr : r ∈ (m.after ws).filter fun r => decide (r ∈ m.ls) := by rw [hl]; exact List.mem_cons_self
        exact ⟨r, (List.mem_filter.mp hr).1, (List.mem_filter.mp hr).2⟩
    · rintro ⟨r, h1, h2⟩
      have hr : r ∈ (m.after ws).filter fun r => decide (r ∈ m.ls) := List.mem_filter.mpr ⟨h1, h2⟩
      cases hl : (m.after ws).filter fun r => decide (r ∈ m.ls) with
      | nil => rw [hl] at hr; cases hr
      | cons a l => rfl
  · repeat walk_at "gm"
    refine ⟨rfl, fun _ => ?_, fun _ => rfl⟩
    repeat walk_at "gm"
    exact ⟨rfl, rfl⟩
end
end Gm
namespace Gm
open PySem PySem.Spec PyProof.Rows L2
local macro_rules | `(tactic| walk_at "gm") => `(tactic| first
  | (with_reducible refine st_seq ?_)
  | ((with_reducible show Tg _ (gName _) _ _ _); refine tg_nameG rfl ?_)
  | ((with_reducible show Tg _ (gTup _ _ _) _ _ _); refine tg_tup (by rfl) ?_)
  | (with_reducible refine tgs_cons ?_)
  | (with_reducible refine tgs_nil ?_)
  | (with_reducible refine tgin_name (by decide))
  | (with_reducible refine tgin_tup ?_)
  | (with_reducible refine tgsin_cons ?_ ?_ ?_ ?_)
  | (with_reducible exact tgsin_nil)
  | (with_reducible exact tgm_name)
  | (with_reducible refine tgm_tup ?_)
  | (with_reducible refine tgsm_cons ?_ ?_)
  | (with_reducible exact tgsm_nil)
  | (with_reducible refine ev_neg ?_)
  | ((with_reducible show ∃ i, Rz.d (D.int _) = Rz.d (D.int i) ∧ _); refine ⟨_, rfl, ?_⟩)
  | (with_reducible refine it_enumG ?_)
  | (with_reducible refine it_rngG ?_)
  | (with_reducible refine st_if ?_)
  | (with_reducible refine st_ret ?_)
  | (with_reducible refine st_retN ?_)
  | (with_reducible refine st_drop ?_)
  | (with_reducible refine st_next ?_)
  | (with_reducible refine st_cont ?_)
  | (with_reducible refine et_B ?_)
  | (with_reducible refine et_test ?_)
  | (with_reducible refine et_not ?_)
  | (with_reducible refine et_and ?_)
  | (with_reducible refine et_or ?_)
  | (with_reducible refine ev_andV ?_)
  | (with_reducible refine ev_orV ?_)
  | (with_reducible refine ev_notV ?_)
  | (with_reducible refine ev_if ?_)
  | (with_reducible refine ev_chain ?_)
  | (with_reducible refine ev_op' ?_)
  | (with_reducible refine ev_tupG ?_)
  | (with_reducible refine ev_lstG ?_)
  | (with_reducible refine ev_callG rs_nil rfl rfl ?_)
  | (with_reducible refine ev_cb ?_)
  | (with_reducible refine ev_bm ?_)
  | (with_reducible refine ev_bm0 ?_)
  | (with_reducible refine ev_m1 ?_)
  | (with_reducible refine ev_slice ?_)
  | (with_reducible refine eo_none ?_)
  | (with_reducible refine eo_some ?_)
  | (with_reducible refine ea_cons' ?_)
  | (with_reducible refine ea_nil ?_)
  | ((with_reducible show Ev _ (tVar _) _ _); refine ev_var rfl rfl ?_)
  | (with_reducible refine ev_int ?_)
  | (with_reducible refine ev_str ?_)
  | (with_reducible refine ev_bl ?_)
  | (with_reducible refine ev_non ?_)
  | ((with_reducible show Ev _ (tC (V.ty _)) _ _); refine ev_cx ?_)
  | ((with_reducible show ∃ b, Rz.d (D.bl _) = Rz.d (D.bl b) ∧ _); refine ⟨_, rfl, ?_⟩)
  | ((with_reducible show ∃ ds, unDs _ = some ds ∧ _); refine ⟨_, rfl, ?_⟩)
  | ((with_reducible show List.length _ ≤ 100000 ∧ _); refine and_ble rfl ?_)
  | ((with_reducible show Cb _ (rIsi _) _ _ _); refine cb_isT rfl rfl rfl (by decide) ?_)
  | ((with_reducible show Cb _ (fun xs H Q => ∃ x n, xs = [x] ∧ LenV _ x H n ∧ Q (.int n) H) _ _ _); refine cb_lenG rfl rfl ?_)
  | ((with_reducible show Op2 _ (orR rEq _) _ _ _ _); first | refine op_eqI rfl rfl ?_ | refine op_eqS rfl rfl ?_)
  | ((with_reducible show Op2 _ (orR rNe _) _ _ _ _); first | refine op_neI rfl rfl ?_ | refine op_neB rfl rfl ?_)
  | ((with_reducible show Op2 _ (rI0 _) _ _ _ _); first | refine op_cmpI rfl rfl ?_ | refine op_subI rfl rfl ?_)
  | ((with_reducible show Op2 _ (orR (rI0 _) _) _ _ _ _); refine op_addI rfl rfl ?_)
  | ((with_reducible show Op2 _ (fun x y H Q => y = V.non ∧ _) _ _ _ _); first | refine op_is rfl rfl ?_ | refine op_isnot rfl rfl ?_)
  | ((with_reducible show Op2 _ (fun x y H Q => ∃ (c : Nat) (z : Str), x = V.str ⟨#[c]⟩ ∧ _) _ _ _ _); refine op_inSign rfl rfl ?_)
  | ((with_reducible show Op2 _ (rIx _) _ _ _ _); refine op_ix rfl rfl rfl (fun _ z => by cases z) ?_)
  | (with_reducible refine ev_newN rfl ?_)
  | (with_reducible refine ev_newI ?_)
  | ((with_reducible show Cb _ (fun xs H Q => (∃ i, xs = [V.int i] ∧ _) ∨ _) _ _ _); refine cb_intB rfl ?_)
  | ((with_reducible show Op2 _ (rIn _ _) _ _ _ _); refine op_inL rfl rfl ?_)
  | (with_reducible refine it_listG ?_)
  | (with_reducible refine et_yes ?_)
  | ((with_reducible show ∃ ds, unD _ = some (D.lst ds) ∧ _); refine ⟨_, rfl, ?_⟩)
  | ((with_reducible show ∃ ds, unDs _ = some [D.lst ds] ∧ _); refine ⟨_, rfl, ?_⟩)
  | ((with_reducible show ∃ n, unDs _ = some [iD n] ∧ _); refine ⟨_, rfl, ?_⟩)
  | ((with_reducible show (∃ d, vw _ _ = some d ∧ tyD _ d) ∧ _); refine ⟨⟨_, rfl, rfl⟩, ?_⟩)
  | ((with_reducible show Mt _ rAppend (Rz.o _) [Rz.d _] _ _); refine mt_app rfl ?_ ?_)
  | (with_reducible refine it_enumS ?_)
  | ((with_reducible show ∃ s, unDs _ = some [D.str s] ∧ _); refine ⟨_, rfl, ?_⟩))
abbrev s__law_word : Stmt := topS 80
theorem sc__law_word : FnScope ["_law_hand_here", "_law_own", "_law_most", "_law_signs_here", "_law_many", "_law_k"] ["_law_hand_here", "_law_own", "_law_most"] (defScope s__law_word) := ⟨rfl, rfl, rfl, by decide +kernel, rfl, by decide +kernel, by decide +kernel⟩
abbrev s__law_made : Stmt := topS 81
theorem sc__law_made : FnScope ["_law_own", "_law_told", "_law_lasts", "_law_steps", "_law_number", "_law_text", "_law_nexts", "_law_room", "_law_sign", "_law_to"] ["_law_own", "_law_told"] (defScope s__law_made) := ⟨rfl, rfl, rfl, by decide +kernel, rfl, by decide +kernel, by decide +kernel⟩
abbrev s__law_words : Stmt := topS 82
theorem sc__law_words : FnScope ["_law_signs_here", "_law_found", "_law_row", "_law_turn", "_law_longer", "_law_word_here", "_law_sign"] ["_law_signs_here"] (defScope s__law_words) := ⟨rfl, rfl, rfl, by decide +kernel, rfl, by decide +kernel, by decide +kernel⟩
abbrev pr__law_word (ds : List D) : Prop := ∃ (d0 : D) (m : Mach), HandOk d0 ∧ m.Ok ∧ ds = [d0, m.d, .int 12]
abbrev po__law_word (ds : List D) (d1 d : D) : Prop := HandOk d1 ∧ ∃ ws : List Nat, ws.length ≤ 12 ∧ (∀ c ∈ ws, isL c) ∧ d = .str (mkS ws)
abbrev K__law_word (P : Program) (w : World) (K : PySem.W.Frag) (mg : Str → Option Value) (base : Heap) (T : List NdefX.NTab) : Prop := Kn P w K mg base "_law_word" 2 [] (spM w T pr__law_word po__law_word)
/-- the machine of the told sets -/
def Mach.made (m : Mach) (row : List (List Nat)) : Mach := ⟨row.length, [0], (List.range row.length).filter fun i => m.isLast (row.getD i []), (List.range row.length).flatMap fun i => m.sig.map fun c => (i, c, numOf row (m.by (row.getD i []) c))⟩
abbrev pr__law_made (ds : List D) : Prop := ∃ (m : Mach) (row : List (List Nat)), m.Ok ∧ m.n ≤ 4 ∧ row.length ≤ 12 ∧ (∀ S ∈ row, S.Pairwise (· < ·) ∧ ∀ r ∈ S, r < m.n) ∧ ds = [m.d, .lst (row.map (m.tell row))]
abbrev po__law_made (ds : List D) (d : D) : Prop := ∀ (m : Mach) (row : List (List Nat)), (∀ S ∈ row, S.Pairwise (· < ·) ∧ ∀ r ∈ S, r < m.n) → ds = [m.d, .lst (row.map (m.tell row))] → d = (m.made row).d
abbrev K__law_made (P : Program) (w : World) (K : PySem.W.Frag) (mg : Str → Option Value) (base : Heap) (T : List NdefX.NTab) : Prop := KnR P w K mg base T "_law_made" 1 [] pr__law_made po__law_made
abbrev pr__law_words (ds : List D) : Prop := ∃ cs : List Nat, cs.length ≤ 2 ∧ (∀ c ∈ cs, isL c) ∧ ds = [.lst (cs.map sg)]
abbrev po__law_words (ds : List D) (d : D) : Prop := ∃ wl : List (List Nat), wl.length ≤ 1000 ∧ (∀ ws ∈ wl, ws.length ≤ 12 ∧ ∀ c ∈ ws, isL c) ∧ d = .lst (wl.map fun ws => .str (mkS ws))
abbrev K__law_words (P : Program) (w : World) (K : PySem.W.Frag) (mg : Str → Option Value) (base : Heap) (T : List NdefX.NTab) : Prop := KnR P w K mg base T "_law_words" 1 [] pr__law_words po__law_words
theorem or_signs {Z : Zn} {Γ : List Kd} {m : Mach} (hm : m.Ok) {k : Rz → List Kd → Prop} (h : ∀ cs : List Nat, 1 ≤ cs.length → cs.length ≤ 200 → (∀ c ∈ cs, isL c) → k (.d (.lst (cs.map sg))) Γ) (hk : ∀ d, k (.d d) Γ → k (.n d) Γ) : (m.sig.map sg = [] → Ev Z (tLst (tCons (tC (.str (Str.ofString "a"))) tNil)) Γ k) ∧ (m.sig.map sg ≠ [] → k (.d (.lst (m.sig.map sg))) Γ) := by
  refine And.symm ⟨?_, ?_⟩
  · intro ne
    refine h m.sig (Nat.pos_of_ne_zero fun z => ne (by rw [List.length_eq_zero_iff.mp z]; rfl)) (Nat.le_trans (sig26 m) (by decide)) (fun c hc => Mach.sig_L hc)
  · intro _
    repeat walk_at "gm"
    exact hk _ (h [97] (by decide) (by decide) (fun c hc => by rw [List.mem_singleton] at hc; subst hc; decide))
theorem three (r : Nat) (h : r < 3) : ∃ x, ([97, 98, 122] : List Nat)[r]? = some x ∧ isL x := by
  match r, h with
  | 0, _ => exact ⟨97, rfl, by decide⟩
  | 1, _ => exact ⟨98, rfl, by decide⟩
  | 2, _ => exact ⟨122, rfl, by decide⟩
theorem sg_str (l : List Nat) : l.map sg = (l.map s1).map D.str := by rw [List.map_map]; rfl
def wsD (wl : List (List Nat)) : D := .lst (wl.map fun ws => .str (mkS ws))
theorem wsD_e : D.lst [.str (Str.ofString "")] = wsD [[]] := rfl
def Mach.lastsOf (m : Mach) (row : List (List Nat)) (n : Nat) : List Nat := (List.range n).filter fun i => m.isLast (row.getD i [])
def Mach.stepsOf (m : Mach) (row : List (List Nat)) (n : Nat) : List (Nat × Nat × Nat) := (List.range n).flatMap fun i => m.sig.map fun c => (i, c, numOf row (m.by (row.getD i []) c))
theorem steps_len (m : Mach) (row : List (List Nat)) : ∀ n, (m.stepsOf row n).length = n * m.sig.length
  | 0 => by simp [Mach.stepsOf]
  | n + 1 => by
    have := steps_len m row n
    unfold Mach.stepsOf at this ⊢
    rw [List.range_succ, List.flatMap_append, List.length_append, this]
    simp [Nat.succ_mul]
theorem lastsOf_succ (m : Mach) (row : List (List Nat)) (n : Nat) : m.lastsOf row (n + 1) = if m.isLast (row.getD n []) = true then m.lastsOf row n ++ [n] else m.lastsOf row n := by
  unfold Mach.lastsOf
  rw [List.range_succ, List.filter_append]
  cases h : m.isLast (row.getD n []) with
  | true => rw [List.filter_cons_of_pos (p := fun i => m.isLast (row.getD i [])) h]; rfl
  | false => rw [List.filter_cons_of_neg (p := fun i => m.isLast (row.getD i [])) (by rw [h]; decide), List.filter_nil, List.append_nil]; rfl
theorem stepsOf_succ (m : Mach) (row : List (List Nat)) (n : Nat) : m.stepsOf row (n + 1) = m.stepsOf row n ++ m.sig.map fun c => (n, c, numOf row (m.by (row.getD n []) c)) := by
  unfold Mach.stepsOf
  rw [List.range_succ, List.flatMap_append]
  simp
theorem tells_inj {m : Mach} {x y : List (List Nat)} : ∀ {row row' : List (List Nat)}, (∀ S ∈ row, S.Pairwise (· < ·) ∧ ∀ r ∈ S, r < m.n) → (∀ S ∈ row', S.Pairwise (· < ·) ∧ ∀ r ∈ S, r < m.n) → row.map (m.tell x) = row'.map (m.tell y) → row = row'
  | [], [], _, _, _ => rfl
  | [], _ :: _, _, _, e => nomatch e
  | _ :: _, [], _, _, e => nomatch e
  | S :: l, S' :: l', h, h', e => by
    rw [List.map_cons, List.map_cons] at e
    have e1 := (List.cons.inj e).1
    have e2 := (List.cons.inj e).2
    unfold Mach.tell at e1
    simp only [D.tup.injEq, List.cons.injEq, D.str.injEq] at e1
    have hS := h S List.mem_cons_self
    have hS' := h' S' List.mem_cons_self
    rw [(txt_inj hS.1 hS.2 hS'.1 hS'.2 e1.1).2, tells_inj (fun T hT => h T (List.mem_cons_of_mem _ hT)) (fun T hT => h' T (List.mem_cons_of_mem _ hT)) e2]
theorem lastF (m : Mach) {S : List Nat} (hS : ∀ r ∈ S, r < m.n) : (!((List.range m.n).filter fun r => decide (r ∈ S) && decide (r ∈ m.ls)).isEmpty) = m.isLast S := by
  rw [Bool.eq_iff_iff]
  unfold Mach.isLast
  rw [List.any_eq_true]
  constructor
  · intro h
    cases hl : (List.range m.n).filter fun r => decide (r ∈ S) && decide (r ∈ m.ls) with
    | nil => rw [hl] at h; cases h
    | cons r l =>
      have hr : r ∈ (List.range m.n).filter fun r => decide (r ∈ S) && decide (r ∈ m.ls) := by rw [hl]; exact List.mem_cons_self
      have h2 := (List.mem_filter.mp hr).2
      rw [Bool.and_eq_true] at h2
      exact ⟨r, of_decide_eq_true h2.1, h2.2⟩
  · rintro ⟨r, h1, h2⟩
    have hr : r ∈ (List.range m.n).filter fun r => decide (r ∈ S) && decide (r ∈ m.ls) := List.mem_filter.mpr ⟨List.mem_range.mpr (hS r h1), by rw [Bool.and_eq_true]; exact ⟨decide_eq_true h1, h2⟩⟩
    cases hl : (List.range m.n).filter fun r => decide (r ∈ S) && decide (r ∈ m.ls) with
    | nil => rw [hl] at hr; cases hr
    | cons a l => rfl
section
variable {P : Program} {w : World} {K : PySem.W.Frag} {mg : Str → Option Value} {base : Heap} {T : List NdefX.NTab} {f : Addr} {fd : FuncData}
theorem ok__law_word (F : FnP K "_law_word" "_law_word" s__law_word [] f fd) (g : Bl mg) (c : Cn mg) (h__law_draw : K__law_draw P w K mg base T) (h__law_signs : K__law_signs P w K mg base T) : FnOk P w K mg base CX0 2 f fd ["_law_hand_here", "_law_own", "_law_most"] (spM w T pr__law_word po__law_word) := by
  refine fnM F sc__law_word ?_ fun cdv A outer s H E hr => ?_
  · rintro ds ⟨_, _, _, _, rfl⟩; rfl
  have hu := hr.units
  have nd := sc__law_word.nd
  refine ⟨_, (pss_cons (ps_set (i := 3) nd rfl (by first | exact Or.inl rfl | exact Or.inr rfl) (pe_op op_ADD (pe_orT (pe_kn h__law_signs (hr.mono (by decide)) (by rfl) (pa_cons (pv 1) pa_nil)) (pe_one (pe_lst (pa_cons pe_str pa_nil)))) (pe_lst (pa_cons (pe_ix (kix_seq (K := K)) pe_str (pe_kn h__law_draw (hr.mono (by decide)) (by rfl) (pa_cons (pv 0) (pa_cons pe_int pa_nil))) (fun _ _ => rfl)) pa_nil))))
  (pss_cons (ps_set (i := 4) nd rfl (by first | exact Or.inl rfl | exact Or.inr rfl) (pe_kn h__law_draw (hr.mono (by decide)) (by rfl) (pa_cons (pv 0) (pa_cons (pe_op op_ADD (pv 2) pe_int) pa_nil))))
  (pss_one (ps_ret (pe_join pe_str (pe_lc (own := [("_law_k", 5)]) (by rfl) nd (pi_range1 (by rfl) g.range (pa_cons (pv 4) pa_nil)) (blkOk_by (own := [("_law_k", 5)]) (N := ["_law_hand_here", "_law_own", "_law_most", "_law_signs_here", "_law_many", "_law_k"]) (sc := defScope s__law_word) (by decide +kernel)) (fun _ _ _ _ _ => (pg_name (i := 5) nd rfl (by first | exact Or.inl rfl | exact Or.inr rfl))) (fun _ _ _ _ _ => pts_nil) (fun _ _ _ _ _ => (pe_ix (kix_seq (K := K)) (pv 3) (pe_op op_mod (pe_kn h__law_draw (hr.mono (by decide)) (by rfl) (pa_cons (pv 0) (pa_cons (pe_op op_MUL (pe_callB (kcall_len (K := K)) (by rfl) g.len boot_len (pa_cons (pv 3) pa_nil)) pe_int) pa_nil))) (pe_callB (kcall_len (K := K)) (by rfl) g.len boot_len (pa_cons (pv 3) pa_nil))) (fun _ _ => rfl))))))))), fun H B p d0 ds hp => ?_⟩
  obtain ⟨d0', m, hh, hm, e⟩ := hp
  cases e
  repeat walk_at "gm"
  refine st_asgF ?_
  repeat walk_at "gm"
  refine ev_orL ?_
  repeat walk_at "gm"
  refine ⟨⟨m, hm, rfl⟩, fun d e => ?_⟩
  rw [e m rfl]
  refine ⟨m.sig.map sg, rfl, ?_⟩
  refine And.symm (or_signs hm (fun cs c1 c2 cL => ?_) (fun d h => h))
  repeat walk_at "gm"
  refine ev_callM rfl rfl ?_
  repeat walk_at "gm"
  refine ⟨0, _, d0, _, _, rfl, rfl, rfl, ⟨d0, 3, hh, by decide, by decide, rfl⟩, fun d1 d ⟨hh1, h3⟩ => ?_⟩
  obtain ⟨r3, hr3, rfl⟩ := h3 d0 3 rfl
  clear h3
  obtain ⟨z, hz, hzL⟩ := three r3 hr3
  refine op_ix rfl rfl (itD_str hz) (fun s z => by cases z; exact Nat.le_trans (Nat.le_of_eq (show (Str.ofString "abz").length = 3 from rfl)) (by omega)) ?_
  repeat walk_at "gm"
  refine op_catL rfl rfl (by rw [List.length_map]; show _ + 1 ≤ _; omega) ?_
  have e1 : cs.map sg ++ [sg z] = (cs ++ [z]).map sg := by rw [List.map_append]; rfl
  rw [e1]
  clear e1
  have gL : ∀ c ∈ cs ++ [z], isL c := fun c hc => by
    rcases List.mem_append.mp hc with h | h
    · exact cL c h
    · rw [List.mem_singleton] at h
      rw [h]
      exact hzL
  have g1 : 1 ≤ (cs ++ [z]).length := by rw [List.length_append]; show 1 ≤ _ + 1; omega
  have g2 : (cs ++ [z]).length ≤ 201 := by rw [List.length_append]; show _ + 1 ≤ _; omega
  generalize cs ++ [z] = gs at gL g1 g2
  repeat walk_at "gm"
  refine st_asg ?_
  refine ev_callM rfl rfl ?_
  repeat walk_at "gm"
  refine ⟨0, _, d1, _, _, rfl, rfl, rfl, ⟨d1, 13, hh1, by decide, by decide, rfl⟩, fun d2 d ⟨hh2, h3⟩ => ?_⟩
  obtain ⟨r13, hr13, rfl⟩ := h3 d1 13 rfl
  clear h3
  repeat walk_at "gm"
  refine ⟨_, rfl, ?_⟩
  refine ev_lcRX (fun _ i => iD i) (List.range r13) (fun q mm Γ => ∃ d1 x, HandOk d1 ∧ x.isOb = false ∧ Γ = [.ob false d1, .dat m.d, .dat (.int 12), .dat (.lst (gs.map sg)), .dat (iD r13), x] ∧ ∃ rs : List Nat, mm = rs.map sg ∧ rs.length = q.length ∧ ∀ r ∈ rs, isL r) (by repeat walk_at "gm") (by repeat walk_at "gm") ?_
  repeat walk_at "gm"
  refine ⟨by omega, by rw [List.length_map, List.length_range]; omega, idx_map iD, ⟨d2, .any, hh2, rfl, rfl, [], rfl, rfl, by simp⟩, fun mm Γ ⟨d1, x, h1, hx, hΓ, rs, hm, hl, hr⟩ => ?_, fun q x r e mm Γ ⟨d1, y, h1, hy, hΓ, rs, hm, hl, hr⟩ => ?_⟩
  · subst hΓ hm
    rw [List.length_range] at hl
    refine mt_joinG rfl (sg_str rs) ?_ ?_
    · rw [sum_s1]
      show _ + _ * 0 ≤ _
      omega
    refine ⟨d1, _, rfl, rfl, h1, rs, by omega, hr, ?_⟩
    exact congrArg D.str (join_s1 rs)
  · subst hΓ hm
    refine ⟨by show (!y.isOb && true) = true; rw [hy]; rfl, fun Ha => ?_⟩
    repeat walk_at "gm"
    refine ⟨fun _ => ?_, fun z => nomatch z⟩
    repeat walk_at "gm"
    refine ev_callM rfl rfl ?_
    repeat walk_at "gm"
    refine ⟨by rw [List.length_map]; omega, ?_⟩
    rw [List.length_map]
    repeat walk_at "gm"
    refine Op2.inl (op_I (d := iD (gs.length * 3)) (i := (gs.length : Int)) (j := 3) rfl rfl (.inr (by decide)) (fun B => ?_) ?_)
    · have e3 : (gs.length : Int) * 3 = ((gs.length * 3 : Nat) : Int) := by omega
      show R _ B (.int ((gs.length : Int) * 3)) _
      rw [e3]
      exact .int _
    repeat walk_at "gm"
    refine ⟨0, _, d1, _, _, rfl, rfl, rfl, ⟨d1, gs.length * 3, h1, by omega, by omega, rfl⟩, fun d3 d ⟨hh3, h3⟩ => ?_⟩
    obtain ⟨rc, hrc, rfl⟩ := h3 d1 (gs.length * 3) rfl
    clear h3
    repeat walk_at "gm"
    refine ⟨by rw [List.length_map]; omega, ?_⟩
    rw [List.length_map]
    have hm0 : rc % gs.length < gs.length := Nat.mod_lt _ g1
    refine op_I (d := iD (rc % gs.length)) rfl rfl (by omega) (fun B => ?_) ?_
    · have e4 : ((rc : Int) % (gs.length : Int)) = ((rc % gs.length : Nat) : Int) := by omega
      show R _ B (.int ((rc : Int) % (gs.length : Int))) _
      rw [e4]
      exact .int _
    refine op_ix rfl rfl (d := sg gs[rc % gs.length]) (itD_map (List.getElem?_eq_getElem hm0)) (fun _ z => by cases z) ?_
    refine ⟨_, rfl, d3, y, hh3, hy, rfl, rs ++ [gs[rc % gs.length]], by rw [List.map_append]; rfl, by rw [List.length_append, List.length_append, hl]; rfl, fun a ha => ?_⟩
    rcases List.mem_append.mp ha with h | h
    · exact hr a h
    · rw [List.mem_singleton] at h
      rw [h]
      exact gL _ (List.getElem_mem hm0)
theorem ok__law_words (F : FnP K "_law_words" "_law_words" s__law_words [] f fd) (g : Bl mg) (c : Cn mg)  : FnOk P w K mg base CX0 1 f fd ["_law_signs_here"] (spR w T pr__law_words po__law_words) := by
  refine fnR F sc__law_words ?_ fun cdv A outer s H E hr => ?_
  · rintro ds h
    (repeat (obtain ⟨_, h⟩ := h))
    first
      | rfl
      | (subst h; rfl)
  have hu := hr.units
  have hu1 := hu_of hr
  have nd := sc__law_words.nd
  refine ⟨_, (pss_cons (ps_set (i := 1) nd rfl (by first | exact Or.inl rfl | exact Or.inr rfl) (pe_lst (pa_cons pe_str pa_nil)))
  (pss_cons (ps_set (i := 2) nd rfl (by first | exact Or.inl rfl | exact Or.inr rfl) (pe_lst (pa_cons pe_str pa_nil)))
  (pss_cons (ps_for PassesOwn.never rfl (pi_range1 (by rfl) g.range (pa_cons pe_int pa_nil)) (pg_name (i := 3) nd rfl (by first | exact Or.inl rfl | exact Or.inr rfl)) (pss_cons (ps_set (i := 4) nd rfl (by first | exact Or.inl rfl | exact Or.inr rfl) (pe_lst pa_nil))
  (pss_cons (ps_for PassesOwn.never rfl (kpi_seq (K := K) (pv 2)) (pg_name (i := 5) nd rfl (by first | exact Or.inl rfl | exact Or.inr rfl)) (pss_one (ps_set (i := 4) nd rfl (by first | exact Or.inl rfl | exact Or.inr rfl) (pe_op op_ADD (pv 4) (pe_lc (own := [("_law_sign", 6)]) (by rfl) nd (kpi_seq (K := K) (pv 0)) (blkOk_by (own := [("_law_sign", 6)]) (N := ["_law_signs_here", "_law_found", "_law_row", "_law_turn", "_law_longer", "_law_word_here", "_law_sign"]) (sc := defScope s__law_words) (by decide +kernel)) (fun _ _ _ _ _ => (pg_name (i := 6) nd rfl (by first | exact Or.inl rfl | exact Or.inr rfl))) (fun _ _ _ _ _ => pts_nil) (fun _ _ _ _ _ => (pe_op op_ADD (pv 5) (pv 6))))))))
  (pss_cons (ps_set (i := 2) nd rfl (by first | exact Or.inl rfl | exact Or.inr rfl) (pv 4))
  (pss_one (ps_set (i := 1) nd rfl (by first | exact Or.inl rfl | exact Or.inr rfl) (pe_op op_ADD (pv 1) (pv 2))))))))
  (pss_one (ps_ret (pv 1)))))), fun H B ds hp => ?_⟩
  obtain ⟨cs, hc, hL, rfl⟩ := hp
  repeat walk_at "gm"
  refine st_asgF ?_
  repeat walk_at "gm"
  refine st_asgF ?_
  repeat walk_at "gm"
  refine st_forG (fun _ i => iD i) (List.range 4) (fun q Γ => ∃ (fl row : List (List Nat)) (x y z u : Kd), u.isOb = false ∧ Γ = [.dat (.lst (cs.map sg)), .dat (wsD fl), .dat (wsD row), x, y, z, u] ∧ fl.length ≤ 2 ^ (q.length + 1) ∧ row.length ≤ 2 ^ q.length ∧ (∀ w ∈ fl, w.length ≤ 12 ∧ ∀ c ∈ w, isL c) ∧ ∀ w ∈ row, w.length ≤ q.length ∧ ∀ c ∈ w, isL c) ?_
  repeat walk_at "gm"
  refine ⟨by decide, idx_map iD, ⟨[[]], [[]], _, _, _, _, rfl, rfl, by decide, by decide, by simp, by simp⟩, fun q x r e Γ ⟨fl, row, x1, y, z, u, hu0, hΓ, fl1, row1, flL, rowL⟩ => ?_, fun Γ ⟨fl, row, x1, y, z, u, hu0, hΓ, fl1, row1, flL, rowL⟩ => ?_⟩
  · subst hΓ
    have ql : q.length < 4 := by
      have := congrArg List.length e
      rw [List.length_range, List.length_append, List.length_cons] at this
      omega
    have p1 : 2 ^ (q.length + 1) ≤ 16 := Nat.pow_le_pow_right (by decide) (show q.length + 1 ≤ 4 by omega)
    have p2 : 2 ^ (q.length + 1) = 2 * 2 ^ q.length := by rw [Nat.pow_succ]; omega
    repeat walk_at "gm"
    refine st_asgF ?_
    repeat walk_at "gm"
    refine st_forG (fun _ w => .str (mkS w)) row (fun p Γ => ∃ (lg : List (List Nat)) (z u : Kd), u.isOb = false ∧ Γ = [.dat (.lst (cs.map sg)), .dat (wsD fl), .dat (wsD row), .dat (iD x), .dat (wsD lg), z, u] ∧ lg.length ≤ 2 * p.length ∧ ∀ w ∈ lg, w.length ≤ q.length + 1 ∧ ∀ c ∈ w, isL c) ?_
    refine it_listG ?_
    repeat walk_at "gm"
    refine ⟨idx_map _, ⟨[], _, _, hu0, rfl, by decide, by simp⟩, fun p v r2 e2 Γ ⟨lg, z2, u2, hu2, hΓ, lg1, lgL⟩ => ?_, fun Γ ⟨lg, z2, u2, hu2, hΓ, lg1, lgL⟩ => ?_⟩
    · subst hΓ
      have hv := rowL v (by rw [e2]; simp)
      have pl : p.length ≤ 16 := by
        have := congrArg List.length e2
        rw [List.length_append, List.length_cons] at this
        omega
      repeat walk_at "gm"
      refine st_asgF ?_
      repeat walk_at "gm"
      refine ev_lcM (fun _ c => sg c) cs (fun c => .str (mkS (v ++ [c]))) (by repeat walk_at "gm") (by repeat walk_at "gm") (by show (!u2.isOb && true) = true; rw [hu2]; rfl) ?_
      refine it_listG ?_
      repeat walk_at "gm"
      refine ⟨by rw [List.length_map]; omega, idx_map sg, rfl, ?_, fun i c hi Ha => ?_⟩
      · refine op_catL rfl rfl (by rw [List.length_map, List.length_map]; omega) ?_
        repeat walk_at "gm"
        refine ⟨lg ++ cs.map fun c => v ++ [c], kdOf (Rz.d (D.str (mkS v))), _, hu2, ?_, by rw [List.length_append, List.length_map, List.length_append]; show _ ≤ 2 * (_ + 1); omega, fun w hw => ?_⟩
        · unfold wsD
          rw [List.map_append, List.map_map]
          rfl
        · rcases List.mem_append.mp hw with h | h
          · exact lgL w h
          · obtain ⟨c, h1, rfl⟩ := List.mem_map.mp h
            refine ⟨by rw [List.length_append]; show _ + 1 ≤ _; omega, fun a ha => ?_⟩
            rcases List.mem_append.mp ha with h | h
            · exact hv.2 a h
            · rw [List.mem_singleton] at h
              rw [h]
              exact hL c h1
      · repeat walk_at "gm"
        refine op_addS rfl rfl (by rw [mkS_len]; show _ + 1 ≤ _; omega) ?_
        refine ⟨?_, rfl⟩
        exact congrArg (fun s => Rz.d (D.str s)) (mkS_app v c)
    · subst hΓ
      repeat walk_at "gm"
      refine st_asgF ?_
      repeat walk_at "gm"
      refine st_asgF ?_
      repeat walk_at "gm"
      refine op_catL rfl rfl (by rw [List.length_map, List.length_map]; omega) ?_
      repeat walk_at "gm"
      refine ⟨fl ++ lg, lg, .dat (iD x), .dat (wsD lg), z2, _, hu2, ?_, ?_, ?_, fun w hw => ?_, fun w hw => ?_⟩
      · unfold wsD
        rw [List.map_append]
        rfl
      · rw [List.length_append, List.length_append]
        show _ ≤ 2 ^ (q.length + 1 + 1)
        rw [Nat.pow_succ 2 (q.length + 1)]
        omega
      · rw [List.length_append]
        show _ ≤ 2 ^ (q.length + 1)
        omega
      · rcases List.mem_append.mp hw with h | h
        · exact flL w h
        · exact ⟨by have := (lgL w h).1; omega, (lgL w h).2⟩
      · rw [List.length_append]
        exact lgL w hw
  · subst hΓ
    rw [List.length_range] at fl1
    repeat walk_at "gm"
    exact ⟨_, rfl, fl, by omega, flL, rfl⟩
theorem ok__law_made (F : FnP K "_law_made" "_law_made" s__law_made [] f fd) (g : Bl mg) (c : Cn mg)  : FnOk P w K mg base CX0 1 f fd ["_law_own", "_law_told"] (spR w T pr__law_made po__law_made) := by
  refine fnR F sc__law_made ?_ fun cdv A outer s H E hr => ?_
  · rintro ds h
    (repeat (obtain ⟨_, h⟩ := h))
    first
      | rfl
      | (subst h; rfl)
  have hu := hr.units
  have hu1 := hu_of hr
  have nd := sc__law_made.nd
  refine ⟨_, (pss_cons (ps_set (i := 2) nd rfl (by first | exact Or.inl rfl | exact Or.inr rfl) (pe_lst pa_nil))
  (pss_cons (ps_set (i := 3) nd rfl (by first | exact Or.inl rfl | exact Or.inr rfl) (pe_lst pa_nil))
  (pss_cons (ps_for PassesOwn.never rfl (kpi (t' := iEnum K _) (pi_enum (by rfl) g.enumerate (pa_cons (pv 1) pa_nil))) (kpg_tup (K := K) (n := 2) rfl (pgs_cons (pg_name (i := 4) nd rfl (by first | exact Or.inl rfl | exact Or.inr rfl)) (pgs_cons (kpg_tup (K := K) (n := 2) rfl (pgs_cons (pg_name (i := 5) nd rfl (by first | exact Or.inl rfl | exact Or.inr rfl)) (pgs_cons (pg_name (i := 6) nd rfl (by first | exact Or.inl rfl | exact Or.inr rfl)) pgs_nil))) pgs_nil))) (pss_cons (ps_if (pt_cmpR (kop_NE (K := K) hu) (pe_lc (own := [("_law_room", 7)]) (by rfl) nd (pi_range1 (by rfl) g.range (pa_cons (pe_ix (kix_seq (K := K)) (pv 0) pe_int (fun _ _ => rfl)) pa_nil)) (blkOk_by (own := [("_law_room", 7)]) (N := ["_law_own", "_law_told", "_law_lasts", "_law_steps", "_law_number", "_law_text", "_law_nexts", "_law_room", "_law_sign", "_law_to"]) (sc := defScope s__law_made) (by decide +kernel)) (fun _ _ _ _ _ => (pg_name (i := 7) nd rfl (by first | exact Or.inl rfl | exact Or.inr rfl))) (fun _ _ _ _ _ => (pts_one (PW.pt (pw_and (pt_cmpR (kop_EQ (K := K) hu) (pe_ix (kix_seq (K := K)) (pv 5) (pv 7) (fun _ _ => rfl)) pe_str (nomark _)) (pw_and1 (pt_cmpR (kop_in (K := K)) (pv 7) (pe_ix (kix_seq (K := K)) (pv 0) pe_int (fun _ _ => rfl)) (by rfl))))))) (fun _ _ _ _ _ => (pv 7))) (pe_lst pa_nil) (nomark _)) (pss_one (ps_expr (pe_bm PySem.F.plainAttrs_list PySem.F.slot_list_append PySem.F.type_list_append mt_append (pv 2) (pa_cons (pv 4) pa_nil)))) pss_nil)
  (pss_one (ps_set (i := 3) nd rfl (by first | exact Or.inl rfl | exact Or.inr rfl) (pe_op op_ADD (pv 3) (pe_lc (own := [("_law_sign", 8), ("_law_to", 9)]) (by rfl) nd (kpi_seq (K := K) (pv 6)) (blkOk_by (own := [("_law_sign", 8), ("_law_to", 9)]) (N := ["_law_own", "_law_told", "_law_lasts", "_law_steps", "_law_number", "_law_text", "_law_nexts", "_law_room", "_law_sign", "_law_to"]) (sc := defScope s__law_made) (by decide +kernel)) (fun _ _ _ _ _ => (kpg_tup (K := K) (n := 2) rfl (pgs_cons (pg_name (i := 8) nd rfl (by first | exact Or.inl rfl | exact Or.inr rfl)) (pgs_cons (pg_name (i := 9) nd rfl (by first | exact Or.inl rfl | exact Or.inr rfl)) pgs_nil)))) (fun _ _ _ _ _ => pts_nil) (fun _ _ _ _ _ => (pe_tup (pa_cons (pv 4) (pa_cons (pv 8) (pa_cons (pv 9) pa_nil)))))))))))
  (pss_one (ps_ret (pe_tup (pa_cons (pe_callB (kcall_len (K := K)) (by rfl) g.len boot_len (pa_cons (pv 1) pa_nil)) (pa_cons (pe_lst (pa_cons pe_int pa_nil)) (pa_cons (pv 2) (pa_cons (pv 3) pa_nil)))))))))), fun H B ds hp => ?_⟩
  obtain ⟨m, row, hm, h4, h12, hrow, rfl⟩ := hp
  repeat walk_at "gm"
  refine st_asg ?_
  repeat walk_at "gm"
  refine st_asgF ?_
  repeat walk_at "gm"
  have sl : m.sig.length ≤ 26 := sig26 m
  refine st_forG (fun i S => .tup [iD i, m.tell row S]) row (fun q Γ => ∃ (x4 x5 x6 x7 x8 x9 : Kd), x7.isOb = false ∧ x8.isOb = false ∧ x9.isOb = false ∧ Γ = [.dat m.d, .dat (.lst (row.map (m.tell row))), .ob true (iLs (m.lastsOf row q.length)), .dat (.lst ((m.stepsOf row q.length).map stD)), x4, x5, x6, x7, x8, x9]) ?_
  refine it_enumG ?_
  repeat walk_at "gm"
  refine ⟨idx_enum _, ⟨_, _, _, _, _, _, rfl, rfl, rfl, rfl⟩, fun q S r e Γ ⟨x4, x5, x6, x7, x8, x9, h7, h8, h9, hΓ⟩ => ?_, fun Γ ⟨x4, x5, x6, x7, x8, x9, h7, h8, h9, hΓ⟩ => ?_⟩
  · subst hΓ
    have ql : q.length < row.length := by rw [e, List.length_append, List.length_cons]; omega
    have q12 : q.length * m.sig.length ≤ 12 * 26 := Nat.mul_le_mul (by omega) sl
    have hS : ∀ r ∈ S, r < m.n := (hrow S (by rw [e]; simp)).2
    have hg : row.getD q.length [] = S := by rw [List.getD_eq_getElem?_getD, e]; simp
    have hll : (m.lastsOf row q.length).length ≤ q.length := by
      have := List.length_filter_le (fun i => m.isLast (row.getD i [])) (List.range q.length)
      rw [List.length_range] at this
      exact this
    repeat walk_at "gm"
    refine ev_lcP (fun _ r => iD r) (List.range m.n) (fun r => decide (r ∈ S) && decide (r ∈ m.ls)) iD (by repeat walk_at "gm") (by repeat walk_at "gm") (by show (!x7.isOb && true) = true; rw [h7]; rfl) ?_
    repeat walk_at "gm"
    refine ⟨by omega, by rw [List.length_map, List.length_range]; omega, idx_map iD, rfl, ?_, fun i r hr Ha => ?_⟩
    · repeat walk_at "gm"
      refine op_neP (d1 := iLs ((List.range m.n).filter fun r => decide (r ∈ S) && decide (r ∈ m.ls))) rfl rfl (sh_iLs _) sh_nil ⟨_, rfl, ?_⟩
      rw [eqD_iLs, lastF m hS]
      refine tk_b (fun hb => ?_) fun hb => ?_
      · repeat walk_at "gm"
        · rw [List.length_map]; omega
        refine st_asgF ?_
        repeat walk_at "gm"
        refine ev_lcM (fun _ c => .tup [sg c, iD (numOf row (m.by S c))]) m.sig (fun c => stD (q.length, c, numOf row (m.by S c))) (by repeat walk_at "gm") (by repeat walk_at "gm") (by show (!x8.isOb && (!x9.isOb && true)) = true; rw [h8, h9]; rfl) ?_
        refine it_listG ?_
        repeat walk_at "gm"
        refine ⟨by rw [List.length_map]; omega, idx_map _, rfl, ?_, fun i cc hi Ha => ?_⟩
        · refine op_catL rfl rfl (by rw [List.length_map, List.length_map, steps_len]; omega) ?_
          repeat walk_at "gm"
          refine ⟨.dat (iD q.length), .dat (.str (txt m.n S)), .dat (.lst (m.sig.map fun c => .tup [sg c, iD (numOf row (m.by S c))])), x7, x8, x9, h7, h8, h9, ?_⟩
          rw [List.length_append, List.length_singleton, lastsOf_succ, stepsOf_succ, hg, hb, List.map_append, List.map_map]
          first | rfl | (simp only [if_true]; unfold iLs; rw [List.map_append]; rfl)
        · repeat walk_at "gm"
          exact ⟨rfl, rfl⟩
      · repeat walk_at "gm"
        refine st_asgF ?_
        repeat walk_at "gm"
        refine ev_lcM (fun _ c => .tup [sg c, iD (numOf row (m.by S c))]) m.sig (fun c => stD (q.length, c, numOf row (m.by S c))) (by repeat walk_at "gm") (by repeat walk_at "gm") (by show (!x8.isOb && (!x9.isOb && true)) = true; rw [h8, h9]; rfl) ?_
        refine it_listG ?_
        repeat walk_at "gm"
        refine ⟨by rw [List.length_map]; omega, idx_map _, rfl, ?_, fun i cc hi Ha => ?_⟩
        · refine op_catL rfl rfl (by rw [List.length_map, List.length_map, steps_len]; omega) ?_
          repeat walk_at "gm"
          refine ⟨.dat (iD q.length), .dat (.str (txt m.n S)), .dat (.lst (m.sig.map fun c => .tup [sg c, iD (numOf row (m.by S c))])), x7, x8, x9, h7, h8, h9, ?_⟩
          rw [List.length_append, List.length_singleton, lastsOf_succ, stepsOf_succ, hg, hb, List.map_append, List.map_map]
          first | rfl | (simp only [if_true]; unfold iLs; rw [List.map_append]; rfl)
        · repeat walk_at "gm"
          exact ⟨rfl, rfl⟩
    · repeat walk_at "gm"
      have hrn : ((List.range m.n).map fun i => if i ∈ S then 49 else 48)[r]? = some (if r ∈ S then 49 else 48) := by
        rw [List.getElem?_map, List.getElem?_range (List.mem_range.mp (List.mem_of_getElem? hr))]
        rfl
      refine op_ix rfl rfl (itD_str hrn) (fun s z => by cases z; rw [txt_len]; omega) ?_
      repeat walk_at "gm"
      rw [eqS49]
      refine tk_b (fun h1 => ?_) fun h1 => ?_
      · repeat walk_at "gm"
        rw [h1]
        refine ⟨rfl, fun _ => ?_, fun _ => rfl⟩
        repeat walk_at "gm"
        exact ⟨rfl, rfl⟩
      · rw [h1]
        exact ⟨rfl, (fun z => nomatch z), fun _ => rfl⟩
  · subst hΓ
    refine st_freeze 2 rfl ?_
    repeat walk_at "gm"
    refine ⟨by rw [List.length_map]; omega, ?_⟩
    rw [List.length_map]
    repeat walk_at "gm"
    refine ⟨_, rfl, fun m' row' hr' ee => ?_⟩
    simp only [List.cons.injEq, and_true] at ee
    obtain ⟨e1, e2⟩ := ee
    have e1 := Mach.d_inj e1
    subst e1
    rw [← tells_inj hrow hr' (D.lst.inj e2)]
    rfl
end
end Gm
namespace Gm
open PySem PySem.Spec PyProof.Rows L2
theorem Mach.sig_le {m : Mach} (hm : m.Ok) : m.sig.length ≤ m.st.length := by
  have := nodup_sub (β := Nat) m.sig (m.st.map (·.2.1)) (List.Pairwise.imp (fun h => Nat.ne_of_lt h) m.sig_pw) fun c hc => by
    obtain ⟨s, h1, rfl⟩ := (Mach.mem_sig hm).mp hc
    exact List.mem_map_of_mem h1
  rwa [List.length_map] at this
/-- what the row of a machine of few rooms holds -/
structure Fine (m : Mach) (row : List (List Nat)) : Prop where
  ok : m.Ok
  st10 : m.st.length ≤ 10
  rw : m.Row row
  l12 : row.length ≤ 12
theorem Fine.pos {m : Mach} {row : List (List Nat)} (h : Fine m row) : 0 < row.length := (List.getElem?_eq_some_iff.mp h.rw.first).1
theorem numLt {row : List (List Nat)} {S : List Nat} (h : S ∈ row) : numOf row S < row.length := List.idxOf_lt_length_of_mem h
theorem num_at {row : List (List Nat)} {S : List Nat} (h : S ∈ row) : row.getD (numOf row S) [] = S := by
  have hl := List.idxOf_lt_length_of_mem h
  unfold numOf
  rw [List.getD_eq_getElem?_getD, List.getElem?_eq_getElem hl, List.getElem_idxOf]
  rfl
theorem getD_mem {row : List (List Nat)} {i : Nat} (h : i < row.length) : row.getD i [] ∈ row := by
  rw [List.getD_eq_getElem?_getD, List.getElem?_eq_getElem h]
  exact List.getElem_mem h
theorem at_num {row : List (List Nat)} (hn : row.Nodup) {i : Nat} (h : i < row.length) : numOf row (row.getD i []) = i := by
  have hm := getD_mem h
  have h1 := List.idxOf_lt_length_of_mem hm
  have h2 := num_at hm
  rw [List.getD_eq_getElem?_getD, List.getElem?_eq_getElem (show numOf row (row.getD i []) < row.length from h1)] at h2
  have h3 : row.getD i [] = row[i] := by rw [List.getD_eq_getElem?_getD, List.getElem?_eq_getElem h]; rfl
  exact (List.getElem_inj (h₀ := h1) (h₁ := h) hn).mp (by rw [← h3]; exact h2)
theorem mem_made {m : Mach} {row : List (List Nat)} {s : Nat × Nat × Nat} : s ∈ (m.made row).st ↔ s.1 < row.length ∧ s.2.1 ∈ m.sig ∧ s.2.2 = numOf row (m.by (row.getD s.1 []) s.2.1) := by
  obtain ⟨a, c, t⟩ := s
  show (a, c, t) ∈ (List.range row.length).flatMap _ ↔ _
  rw [List.mem_flatMap]
  constructor
  · rintro ⟨i, hi, h⟩
    obtain ⟨c', hc, e⟩ := List.mem_map.mp h
    cases e
    exact ⟨List.mem_range.mp hi, hc, rfl⟩
  · rintro ⟨h1, h2, h3⟩
    simp only at h1 h2 h3
    exact ⟨a, List.mem_range.mpr h1, List.mem_map.mpr ⟨c, h2, by rw [h3]⟩⟩
theorem made_det (m : Mach) (row : List (List Nat)) : (m.made row).Det := fun s hs t ht e1 e2 => by
  have h1 := (mem_made.mp hs).2.2
  have h2 := (mem_made.mp ht).2.2
  obtain ⟨a, c, x⟩ := s
  obtain ⟨a', c', x'⟩ := t
  simp only at e1 e2 h1 h2
  subst e1 e2
  rw [h1, h2]
theorem Fine.made {m : Mach} {row : List (List Nat)} (h : Fine m row) : (m.made row).Ok := by
  refine ⟨h.pos, h.l12, List.pairwise_singleton _ _, fun r hr => ?_, (range_pw _).filter _, fun r hr => List.mem_range.mp (List.mem_filter.mp hr).1, fun s hs => ?_, ?_, ?_⟩
  · have : r = 0 := List.mem_singleton.mp hr
    rw [this]
    exact h.pos
  · obtain ⟨h1, h2, h3⟩ := mem_made.mp hs
    refine ⟨h1, Mach.sig_L h2, ?_⟩
    rw [h3]
    exact numLt (h.rw.closed _ (getD_mem h1) _ h2)
  · show List.Nodup (List.flatMap _ _)
    have hp : (List.range row.length).Nodup := List.nodup_range
    unfold List.Nodup at hp ⊢
    rw [List.pairwise_flatMap]
    refine ⟨fun i _ => ?_, hp.imp fun {a b} hab x hx y hy e => ?_⟩
    · rw [List.pairwise_map]
      exact m.sig_pw.imp fun {a b} hab e => by
        simp only [Prod.mk.injEq, true_and] at e
        exact Nat.ne_of_lt hab e.1
    · obtain ⟨c, _, rfl⟩ := List.mem_map.mp hx
      obtain ⟨c', _, rfl⟩ := List.mem_map.mp hy
      simp only [Prod.mk.injEq] at e
      exact hab e.1
  · have := steps_len m row row.length
    show (m.stepsOf row row.length).length ≤ 200
    rw [this]
    have h1 := Mach.sig_le h.ok
    have := Nat.mul_le_mul h.l12 (Nat.le_trans h1 h.st10)
    omega
theorem Fine.sig {m : Mach} {row : List (List Nat)} (h : Fine m row) : (m.made row).sig = m.sig :=
  sorted_eqN (m.made row).sig_pw m.sig_pw fun c => by
    rw [Mach.mem_sig h.made]
    constructor
    · rintro ⟨s, hs, rfl⟩
      exact (mem_made.mp hs).2.1
    · intro hc
      exact ⟨(0, c, numOf row (m.by (row.getD 0 []) c)), mem_made.mpr ⟨h.pos, hc, rfl⟩, rfl⟩
theorem Fine.by1 {m : Mach} {row : List (List Nat)} (h : Fine m row) {S : List Nat} (hS : S ∈ row) {c : Nat} (hc : c ∈ m.sig) : (m.made row).by [numOf row S] c = [numOf row (m.by S c)] :=
  sorted_eqN (Mach.by_pw _ _ _) (List.pairwise_singleton _ _) fun x => by
    rw [Mach.mem_by h.made, List.mem_singleton]
    constructor
    · rintro ⟨r, hr, hs⟩
      rw [List.mem_singleton] at hr
      subst hr
      have := (mem_made.mp hs).2.2
      simp only at this
      rw [num_at hS] at this
      exact this
    · rintro rfl
      exact ⟨_, List.mem_singleton.mpr rfl, mem_made.mpr ⟨numLt hS, hc, by simp only; rw [num_at hS]⟩⟩
theorem Fine.last {m : Mach} {row : List (List Nat)} (h : Fine m row) {S : List Nat} (hS : S ∈ row) : (m.made row).isLast [numOf row S] = m.isLast S := by
  unfold Mach.isLast
  rw [List.any_cons, List.any_nil, Bool.or_false]
  rw [Bool.eq_iff_iff, decide_eq_true_eq]
  show numOf row S ∈ List.filter _ _ ↔ _
  rw [List.mem_filter, List.mem_range, num_at hS]
  exact ⟨fun z => z.2, fun z => ⟨numLt hS, z⟩⟩
theorem bsig_self {m : Mach} {row : List (List Nat)} (h : Fine m row) {c : Nat} (hc : c ∈ bsig m (m.made row) ∨ c ∈ bsig (m.made row) m) : c ∈ m.sig := by
  have hs := h.sig
  rcases hc with hc | hc <;> rcases mem_bsig.mp hc with h1 | h1 <;> first | exact h1 | (rw [hs] at h1; exact h1)
def Vp1 (row : List (List Nat)) : List Pr := row.map fun S => (S, [numOf row S])
def Vp2 (row : List (List Nat)) : List Pr := row.map fun S => ([numOf row S], S)
theorem Fine.fs {m : Mach} {row : List (List Nat)} (h : Fine m row) : m.fs ∈ row ∧ numOf row m.fs = 0 := by
  have h1 := h.rw.first
  have hp := h.pos
  have e : row.getD 0 [] = m.fs := by rw [List.getD_eq_getElem?_getD, h1]; rfl
  refine ⟨e ▸ getD_mem hp, ?_⟩
  have := at_num h.rw.nodup hp
  rw [e] at this
  exact this
theorem Fine.v1 {m : Mach} {row : List (List Nat)} (h : Fine m row) : (m.fs, (m.made row).fs) ∈ Vp1 row ∧ PClosed m (m.made row) (Vp1 row) ∧ (Vp1 row).length ≤ 400 ∧ ∀ p ∈ Vp1 row, m.isLast p.1 = (m.made row).isLast p.2 := by
  refine ⟨List.mem_map.mpr ⟨m.fs, h.fs.1, by rw [h.fs.2]; rfl⟩, fun p hp c hc => ?_, by unfold Vp1; rw [List.length_map]; have := h.l12; omega, fun p hp => ?_⟩
  · obtain ⟨S, hS, rfl⟩ := List.mem_map.mp hp
    have hc := bsig_self h (.inl hc)
    exact List.mem_map.mpr ⟨m.by S c, h.rw.closed S hS c hc, by rw [h.by1 hS hc]⟩
  · obtain ⟨S, hS, rfl⟩ := List.mem_map.mp hp
    exact (h.last hS).symm
theorem Fine.v2 {m : Mach} {row : List (List Nat)} (h : Fine m row) : ((m.made row).fs, m.fs) ∈ Vp2 row ∧ PClosed (m.made row) m (Vp2 row) ∧ (Vp2 row).length ≤ 400 ∧ ∀ p ∈ Vp2 row, (m.made row).isLast p.1 = m.isLast p.2 := by
  refine ⟨List.mem_map.mpr ⟨m.fs, h.fs.1, by rw [h.fs.2]; rfl⟩, fun p hp c hc => ?_, by unfold Vp2; rw [List.length_map]; have := h.l12; omega, fun p hp => ?_⟩
  · obtain ⟨S, hS, rfl⟩ := List.mem_map.mp hp
    have hc := bsig_self h (.inr hc)
    exact List.mem_map.mpr ⟨m.by S c, h.rw.closed S hS c hc, by rw [h.by1 hS hc]⟩
  · obtain ⟨S, hS, rfl⟩ := List.mem_map.mp hp
    exact h.last hS
end Gm
namespace Gm
open PySem PySem.Spec PyProof.Rows L2
theorem fold_sum {α : Type} (v : α → Nat) : ∀ (l : List α) (z : Nat), l.foldl (fun a s => a + v s) z = z + (l.map v).sum
  | [], z => rfl
  | a :: l, z => by rw [List.foldl_cons, fold_sum v l, List.map_cons, List.sum_cons]; omega
theorem sum_pos {α : Type} (v : α → Nat) : ∀ l : List α, 0 < (l.map v).sum ↔ ∃ x ∈ l, 0 < v x
  | [] => ⟨fun h => absurd h (Nat.lt_irrefl 0), fun ⟨_, h, _⟩ => nomatch h⟩
  | a :: l => by
    rw [List.map_cons, List.sum_cons]
    have ih := sum_pos v l
    constructor
    · intro h
      by_cases ha : 0 < v a
      · exact ⟨a, List.mem_cons_self, ha⟩
      · obtain ⟨x, h1, h2⟩ := ih.mp (by omega)
        exact ⟨x, List.mem_cons_of_mem _ h1, h2⟩
    · rintro ⟨x, h1, h2⟩
      rcases List.mem_cons.mp h1 with rfl | h1
      · omega
      · have := ih.mpr ⟨x, h1, h2⟩
        omega
theorem sum_le1 {α : Type} (v : α → Nat) : ∀ l : List α, l.Nodup → (∀ x ∈ l, v x ≤ 1) → (∀ x ∈ l, ∀ y ∈ l, 0 < v x → 0 < v y → x = y) → (l.map v).sum ≤ 1
  | [], _, _, _ => by simp
  | a :: l, hn, h1, h2 => by
    rw [List.map_cons, List.sum_cons]
    obtain ⟨n1, n2⟩ := List.nodup_cons.mp hn
    have ih := sum_le1 v l n2 (fun x hx => h1 x (List.mem_cons_of_mem _ hx)) fun x hx y hy => h2 x (List.mem_cons_of_mem _ hx) y (List.mem_cons_of_mem _ hy)
    have ha := h1 a List.mem_cons_self
    by_cases hz : 0 < v a
    · have : ¬ 0 < (l.map v).sum := fun hs => by
        obtain ⟨x, hx, hv⟩ := (sum_pos v l).mp hs
        exact n1 (h2 a List.mem_cons_self x (List.mem_cons_of_mem _ hx) hz hv ▸ hx)
      omega
    · omega
theorem mv_sum (st : List (Nat × Nat × Nat)) (v : Nat → Nat) (c t : Nat) : mv st v c t = ((st.filter fun s => s.2.1 == c && s.2.2 == t).map fun s => v s.1).sum := by
  unfold mv
  rw [fold_sum (fun s : Nat × Nat × Nat => v s.1)]
  omega
theorem mv_pos {m : Mach} (hm : m.Ok) {v : Nat → Nat} {S : List Nat} (h : ∀ t, 0 < v t ↔ t ∈ S) (c t : Nat) : 0 < mv m.st v c t ↔ t ∈ m.by S c := by
  rw [mv_sum, sum_pos (fun s : Nat × Nat × Nat => v s.1), Mach.mem_by hm]
  constructor
  · rintro ⟨⟨a, b, d⟩, hs, hv⟩
    obtain ⟨h1, h2⟩ := List.mem_filter.mp hs
    simp only [Bool.and_eq_true, beq_iff_eq] at h2
    obtain ⟨rfl, rfl⟩ := h2
    exact ⟨a, (h a).mp hv, h1⟩
  · rintro ⟨r, hr, hs⟩
    exact ⟨_, List.mem_filter.mpr ⟨hs, by simp⟩, (h r).mpr hr⟩
theorem fold_pos {m : Mach} (hm : m.Ok) : ∀ (ws : List Nat) (v : Nat → Nat) (S : List Nat), (∀ t, 0 < v t ↔ t ∈ S) → ∀ t, 0 < ws.foldl (mv m.st) v t ↔ t ∈ ws.foldl m.by S
  | [], v, S, h => h
  | c :: ws, v, S, h => fold_pos hm ws _ _ (mv_pos hm h c)
theorem ind_pos (S : List Nat) (t : Nat) : 0 < ind S t ↔ t ∈ S := by
  unfold ind
  by_cases h : t ∈ S <;> simp [h]
theorem ind_le (S : List Nat) (t : Nat) : ind S t ≤ 1 := by
  unfold ind
  by_cases h : t ∈ S <;> simp [h]
theorem ways_pos {m : Mach} (hm : m.Ok) (ws : List Nat) : 0 < m.ways ws ↔ m.isLast (m.after ws) = true := by
  unfold Mach.ways Mach.isLast Mach.after
  rw [sum_pos, List.any_eq_true]
  constructor
  · rintro ⟨x, h1, h2⟩
    exact ⟨x, (fold_pos hm ws _ _ (ind_pos m.fs) x).mp h2, decide_eq_true h1⟩
  · rintro ⟨x, h1, h2⟩
    exact ⟨x, of_decide_eq_true h2, (fold_pos hm ws _ _ (ind_pos m.fs) x).mpr h1⟩
/-- at most one room -/
def AtMost (S : List Nat) : Prop := ∀ a ∈ S, ∀ b ∈ S, a = b
theorem mv_one {m : Mach} (hm : m.Ok) {S : List Nat} (hS : AtMost S) (c : Nat) : mv m.st (ind S) c = ind (m.by S c) := by
  funext t
  have h1 := mv_pos hm (ind_pos S) c t
  have h2 := ind_pos (m.by S c) t
  have h3 := ind_le (m.by S c) t
  have h4 : mv m.st (ind S) c t ≤ 1 := by
    rw [mv_sum]
    refine sum_le1 (fun s : Nat × Nat × Nat => ind S s.1) _ (hm.stD.filter _) (fun x _ => ind_le _ _) fun x hx y hy a b => ?_
    obtain ⟨_, hx⟩ := List.mem_filter.mp hx
    obtain ⟨_, hy⟩ := List.mem_filter.mp hy
    obtain ⟨x1, x2, x3⟩ := x
    obtain ⟨y1, y2, y3⟩ := y
    simp only [Bool.and_eq_true, beq_iff_eq] at hx hy
    have := hS _ ((ind_pos _ _).mp a) _ ((ind_pos _ _).mp b)
    simp only at this
    rw [this, hx.1, hx.2, hy.1, hy.2]
  have h5 := h1.trans h2.symm
  omega
theorem fold_one {m : Mach} (hm : m.Ok) : ∀ (ws : List Nat) (S : List Nat), (∀ p, p <+: ws → AtMost (p.foldl m.by S)) → ws.foldl (mv m.st) (ind S) = ind (ws.foldl m.by S)
  | [], S, _ => rfl
  | c :: ws, S, h => by
    rw [List.foldl_cons, List.foldl_cons, mv_one hm (show AtMost S from h [] List.nil_prefix)]
    refine fold_one hm ws _ fun p hp => h (c :: p) ?_
    obtain ⟨q, rfl⟩ := hp
    exact ⟨q, rfl⟩
theorem ways_one {m : Mach} (hm : m.Ok) (ws : List Nat) (h : ∀ p, p <+: ws → AtMost (m.after p)) : m.ways ws ≤ 1 := by
  unfold Mach.ways
  rw [fold_one hm ws _ h]
  refine sum_le1 _ _ (hm.lsS.imp fun h => Nat.ne_of_lt h) (fun x _ => ind_le _ _) fun x hx y hy a b => ?_
  exact h ws (List.prefix_refl _) _ ((ind_pos _ _).mp a) _ ((ind_pos _ _).mp b)
/-- the rooms of the two machines after the same text -/
def Like (row : List (List Nat)) (A B : List Nat) : Prop := (A ∈ row ∧ B = [numOf row A]) ∨ (A = [] ∧ B = [])
theorem by_not {m : Mach} (hm : m.Ok) {c : Nat} (h : c ∉ m.sig) (S : List Nat) : m.by S c = [] := by
  rw [List.eq_nil_iff_forall_not_mem]
  intro x hx
  obtain ⟨r, _, hs⟩ := (Mach.mem_by hm).mp hx
  exact h ((Mach.mem_sig hm).mpr ⟨_, hs, rfl⟩)
theorem by_nil {m : Mach} (hm : m.Ok) (c : Nat) : m.by [] c = [] := by
  rw [List.eq_nil_iff_forall_not_mem]
  intro x hx
  obtain ⟨r, h, _⟩ := (Mach.mem_by hm).mp hx
  cases h
theorem Fine.like {m : Mach} {row : List (List Nat)} (h : Fine m row) : ∀ (ws A B : List Nat), Like row A B → Like row (ws.foldl m.by A) (ws.foldl (m.made row).by B)
  | [], A, B, l => l
  | c :: ws, A, B, l => by
    refine h.like ws _ _ ?_
    by_cases hc : c ∈ m.sig
    · rcases l with ⟨hA, rfl⟩ | ⟨rfl, rfl⟩
      · exact .inl ⟨h.rw.closed A hA c hc, h.by1 hA hc⟩
      · exact .inr ⟨by_nil h.ok c, by_nil h.made c⟩
    · exact .inr ⟨by_not h.ok hc A, by_not h.made (by rw [h.sig]; exact hc) B⟩
theorem Fine.likeW {m : Mach} {row : List (List Nat)} (h : Fine m row) (ws : List Nat) : Like row (m.after ws) ((m.made row).after ws) :=
  h.like ws _ _ (.inl ⟨h.fs.1, by rw [h.fs.2]; rfl⟩)
theorem Fine.lastW {m : Mach} {row : List (List Nat)} (h : Fine m row) (ws : List Nat) : (m.made row).isLast ((m.made row).after ws) = m.isLast (m.after ws) := by
  rcases h.likeW ws with ⟨hA, hB⟩ | ⟨hA, hB⟩
  · rw [hB]; exact h.last hA
  · rw [hA, hB]; rfl
theorem Fine.ways {m : Mach} {row : List (List Nat)} (h : Fine m row) (ws : List Nat) : (m.made row).ways ws = if m.isLast (m.after ws) = true then 1 else 0 := by
  have h1 := ways_one h.made ws fun p _ => by
    rcases h.likeW p with ⟨hA, hB⟩ | ⟨hA, hB⟩
    · rw [hB]
      intro a ha b hb
      rw [List.mem_singleton.mp ha, List.mem_singleton.mp hb]
    · rw [hB]
      intro a ha
      cases ha
  have h2 := ways_pos h.made ws
  rw [h.lastW] at h2
  by_cases hl : m.isLast (m.after ws) = true
  · rw [if_pos hl]
    have := h2.mpr hl
    omega
  · rw [if_neg hl]
    have : ¬ 0 < (m.made row).ways ws := fun z => hl (h2.mp z)
    omega
/-- the sets of the made machine are single rooms -/
def singles (n : Nat) : List (List Nat) := (List.range n).map fun i => [i]
theorem Fine.single {m : Mach} {row : List (List Nat)} (h : Fine m row) : (m.made row).fs ∈ singles row.length ∧ (m.made row).Closed (singles row.length) ∧ (singles row.length).length ≤ 400 := by
  refine ⟨List.mem_map.mpr ⟨0, List.mem_range.mpr h.pos, rfl⟩, fun S hS c hc => ?_, by unfold singles; rw [List.length_map, List.length_range]; have := h.l12; omega⟩
  obtain ⟨i, hi, rfl⟩ := List.mem_map.mp hS
  have hi := List.mem_range.mp hi
  rw [h.sig] at hc
  have := h.by1 (getD_mem hi) hc
  rw [at_num h.rw.nodup hi] at this
  rw [this]
  exact List.mem_map.mpr ⟨_, List.mem_range.mpr (numLt (h.rw.closed _ (getD_mem hi) c hc)), rfl⟩
theorem Fine.single_row {m : Mach} {row row' : List (List Nat)} (h : Fine m row) (h' : (m.made row).Row row') : ∀ S ∈ row', ∃ i, i < row.length ∧ S = [i] := fun S hS => by
  obtain ⟨i, hi, e⟩ := List.mem_map.mp (h'.rc S hS _ h.single.1 h.single.2.1)
  exact ⟨i, List.mem_range.mp hi, e.symm⟩
end Gm
namespace Gm
open PySem PySem.Spec PyProof.Rows L2
local macro_rules | `(tactic| walk_at "gm") => `(tactic| first
  | (with_reducible refine st_seq ?_)
  | ((with_reducible show Tg _ (gName _) _ _ _); refine tg_nameG rfl ?_)
  | ((with_reducible show Tg _ (gTup _ _ _) _ _ _); refine tg_tup (by rfl) ?_)
  | (with_reducible refine tgs_cons ?_)
  | (with_reducible refine tgs_nil ?_)
  | (with_reducible refine tgin_name (by decide))
  | (with_reducible refine tgin_tup ?_)
  | (with_reducible refine tgsin_cons ?_ ?_ ?_ ?_)
  | (with_reducible exact tgsin_nil)
  | (with_reducible exact tgm_name)
  | (with_reducible refine tgm_tup ?_)
  | (with_reducible refine tgsm_cons ?_ ?_)
  | (with_reducible exact tgsm_nil)
  | (with_reducible refine ev_neg ?_)
  | ((with_reducible show ∃ i, Rz.d (D.int _) = Rz.d (D.int i) ∧ _); refine ⟨_, rfl, ?_⟩)
  | (with_reducible refine it_enumG ?_)
  | (with_reducible refine it_rngG ?_)
  | (with_reducible refine st_if ?_)
  | (with_reducible refine st_ret ?_)
  | (with_reducible refine st_retN ?_)
  | (with_reducible refine st_drop ?_)
  | (with_reducible refine st_next ?_)
  | (with_reducible refine st_cont ?_)
  | (with_reducible refine et_B ?_)
  | (with_reducible refine et_test ?_)
  | (with_reducible refine et_not ?_)
  | (with_reducible refine et_and ?_)
  | (with_reducible refine et_or ?_)
  | (with_reducible refine ev_andV ?_)
  | (with_reducible refine ev_orV ?_)
  | (with_reducible refine ev_notV ?_)
  | (with_reducible refine ev_if ?_)
  | (with_reducible refine ev_chain ?_)
  | (with_reducible refine ev_op' ?_)
  | (with_reducible refine ev_tupG ?_)
  | (with_reducible refine ev_lstG ?_)
  | (with_reducible refine ev_callG rs_nil rfl rfl ?_)
  | (with_reducible refine ev_cb ?_)
  | (with_reducible refine ev_bm ?_)
  | (with_reducible refine ev_bm0 ?_)
  | (with_reducible refine ev_m1 ?_)
  | (with_reducible refine ev_slice ?_)
  | (with_reducible refine eo_none ?_)
  | (with_reducible refine eo_some ?_)
  | (with_reducible refine ea_cons' ?_)
  | (with_reducible refine ea_nil ?_)
  | ((with_reducible show Ev _ (tVar _) _ _); refine ev_var rfl rfl ?_)
  | (with_reducible refine ev_int ?_)
  | (with_reducible refine ev_str ?_)
  | (with_reducible refine ev_bl ?_)
  | (with_reducible refine ev_non ?_)
  | ((with_reducible show Ev _ (tC (V.ty _)) _ _); refine ev_cx ?_)
  | ((with_reducible show ∃ b, Rz.d (D.bl _) = Rz.d (D.bl b) ∧ _); refine ⟨_, rfl, ?_⟩)
  | ((with_reducible show ∃ ds, unDs _ = some ds ∧ _); refine ⟨_, rfl, ?_⟩)
  | ((with_reducible show List.length _ ≤ 100000 ∧ _); refine and_ble rfl ?_)
  | ((with_reducible show Cb _ (rIsi _) _ _ _); refine cb_isT rfl rfl rfl (by decide) ?_)
  | ((with_reducible show Cb _ (fun xs H Q => ∃ x n, xs = [x] ∧ LenV _ x H n ∧ Q (.int n) H) _ _ _); refine cb_lenG rfl rfl ?_)
  | ((with_reducible show Op2 _ (orR rEq _) _ _ _ _); first | refine op_eqI rfl rfl ?_ | refine op_eqS rfl rfl ?_)
  | ((with_reducible show Op2 _ (orR rNe _) _ _ _ _); first | refine op_neI rfl rfl ?_ | refine op_neB rfl rfl ?_)
  | ((with_reducible show Op2 _ (rI0 _) _ _ _ _); first | refine op_cmpI rfl rfl ?_ | refine op_subI rfl rfl ?_)
  | ((with_reducible show Op2 _ (orR (rI0 _) _) _ _ _ _); refine op_addI rfl rfl ?_)
  | ((with_reducible show Op2 _ (fun x y H Q => y = V.non ∧ _) _ _ _ _); first | refine op_is rfl rfl ?_ | refine op_isnot rfl rfl ?_)
  | ((with_reducible show Op2 _ (fun x y H Q => ∃ (c : Nat) (z : Str), x = V.str ⟨#[c]⟩ ∧ _) _ _ _ _); refine op_inSign rfl rfl ?_)
  | ((with_reducible show Op2 _ (rIx _) _ _ _ _); refine op_ix rfl rfl rfl (fun _ z => by cases z) ?_)
  | (with_reducible refine ev_newN rfl ?_)
  | (with_reducible refine ev_newI ?_)
  | ((with_reducible show Cb _ (fun xs H Q => (∃ i, xs = [V.int i] ∧ _) ∨ _) _ _ _); refine cb_intB rfl ?_)
  | ((with_reducible show Op2 _ (rIn _ _) _ _ _ _); refine op_inL rfl rfl ?_)
  | (with_reducible refine it_listG ?_)
  | (with_reducible refine et_yes ?_)
  | ((with_reducible show ∃ ds, unD _ = some (D.lst ds) ∧ _); refine ⟨_, rfl, ?_⟩)
  | ((with_reducible show ∃ ds, unDs _ = some [D.lst ds] ∧ _); refine ⟨_, rfl, ?_⟩)
  | ((with_reducible show ∃ n, unDs _ = some [iD n] ∧ _); refine ⟨_, rfl, ?_⟩)
  | ((with_reducible show (∃ d, vw _ _ = some d ∧ tyD _ d) ∧ _); refine ⟨⟨_, rfl, rfl⟩, ?_⟩)
  | ((with_reducible show Mt _ rAppend (Rz.o _) [Rz.d _] _ _); refine mt_app rfl ?_ ?_)
  | (with_reducible refine it_enumS ?_)
  | ((with_reducible show ∃ s, unDs _ = some [D.str s] ∧ _); refine ⟨_, rfl, ?_⟩))
abbrev s__law_right : Stmt := topS 83
theorem sc__law_right : FnScope ["_law_hand_here", "_law_own", "_law_told", "_law_made_here", "_law_text", "_law_turn", "_law_nexts"] ["_law_hand_here", "_law_own"] (defScope s__law_right) := ⟨rfl, rfl, rfl, by decide +kernel, rfl, by decide +kernel, by decide +kernel⟩
abbrev pr__law_right (ds : List D) : Prop := ∃ (d0 : D) (m : Mach), HandOk d0 ∧ m.Ok ∧ m.n ≤ 4 ∧ m.st.length ≤ 10 ∧ ds = [d0, m.d]
abbrev po__law_right (ds : List D) (d1 d : D) : Prop := HandOk d1 ∧ d = .bl true
abbrev K__law_right (P : Program) (w : World) (K : PySem.W.Frag) (mg : Str → Option Value) (base : Heap) (T : List NdefX.NTab) : Prop := Kn P w K mg base "_law_right" 13 [] (spM w T pr__law_right po__law_right)
theorem r400 {w : World} : ∀ B, Rs w B [.int 400] [.int 400] := fun B => .cons (.int _) .nil
theorem rNN {w : World} : ∀ B, Rs w B [.non, .non] [.non, .non] := fun B => .cons .non (.cons .non .nil)
theorem cut2 (l : List Nat) : cutD (l.map sg) none (some 2) = (l.take 2).map sg := by
  unfold cutD HT.sIx
  simp only [List.length_map, List.map_take]
  by_cases h : 2 ≤ l.length
  · simp [h]
  · have h' : l.length ≤ 2 := by omega
    simp [List.take_of_length_le, h']
theorem shNev : Sh 60 (.tup [.str (Str.ofString "never")]) := sh_tup fun d hd => by
  rw [List.mem_singleton] at hd
  subst hd
  exact sh_str (by decide)
theorem count1 (n : Nat) (hn : n ≤ 12) (j : Nat) (hj : j < n) : Txt.count (txt n [j]) (Str.ofString "1") = 1 := by
  have h : ∀ n < 13, ∀ j < n, Txt.count (txt n [j]) (Str.ofString "1") = 1 := by decide +kernel
  exact h n (by omega) j hj
section
variable {P : Program} {w : World} {K : PySem.W.Frag} {mg : Str → Option Value} {base : Heap} {T : List NdefX.NTab} {f : Addr} {fd : FuncData}
theorem ok__law_right (F : FnP K "_law_right" "_law_right" s__law_right [] f fd) (g : Bl mg) (c : Cn mg) (h_sets_of : K_sets_of P w K mg base T) (h_ways : K_ways P w K mg base T) (h__law_fit : K__law_fit P w K mg base T) (h__law_made : K__law_made P w K mg base T) (h__law_words : K__law_words P w K mg base T) (h__law_word : K__law_word P w K mg base T) (h__law_signs : K__law_signs P w K mg base T) (h_growth : K_growth P w K mg base T) (h_parting : K_parting P w K mg base T) (h_closed_of : K_closed_of P w K mg base T) (h_lets_closed : K_lets_closed P w K mg base T) : FnOk P w K mg base CX0 13 f fd ["_law_hand_here", "_law_own"] (spM w T pr__law_right po__law_right) := by
  refine fnM F sc__law_right ?_ fun cdv A outer s H E hr => ?_
  · rintro ds ⟨_, _, _, _, _, _, rfl⟩; rfl
  have hu := hr.units
  have nd := sc__law_right.nd
  refine ⟨_, (pss_cons (ps_set (i := 2) nd rfl (by first | exact Or.inl rfl | exact Or.inr rfl) (pe_kn h_sets_of (hr.mono (by decide)) (by rfl) (pa_cons (pv 1) pa_nil)))
  (pss_cons (ps_if (pt_cmpR op_gt (pe_callB (kcall_len (K := K)) (by rfl) g.len boot_len (pa_cons (pv 2) pa_nil)) pe_int (nomark _)) (pss_one (ps_ret pe_bl)) pss_nil)
  (pss_cons (ps_set (i := 3) nd rfl (by first | exact Or.inl rfl | exact Or.inr rfl) (pe_kn h__law_made (hr.mono (by decide)) (by rfl) (pa_cons (pv 1) (pa_cons (pv 2) pa_nil))))
  (pss_cons (ps_for PassesOwn.never rfl (kpi_seq (K := K) (pe_op op_ADD (pe_kn h__law_words (hr.mono (by decide)) (by rfl) (pa_cons (pe_slice (ksl_list (K := K)) (pe_kn h__law_signs (hr.mono (by decide)) (by rfl) (pa_cons (pv 1) pa_nil)) po_none (po_some pe_int)) pa_nil)) (pe_lc (own := [("_law_turn", 5)]) (by rfl) nd (pi_range1 (by rfl) g.range (pa_cons pe_int pa_nil)) (blkOk_by (own := [("_law_turn", 5)]) (N := ["_law_hand_here", "_law_own", "_law_told", "_law_made_here", "_law_text", "_law_turn", "_law_nexts"]) (sc := defScope s__law_right) (by decide +kernel)) (fun _ _ _ _ _ => (pg_name (i := 5) nd rfl (by first | exact Or.inl rfl | exact Or.inr rfl))) (fun _ _ _ _ _ => pts_nil) (fun _ _ _ _ _ => (pe_kn h__law_word (hr.mono (by decide)) (by rfl) (pa_cons (pv 0) (pa_cons (pv 1) (pa_cons pe_int pa_nil)))))))) (pg_name (i := 4) nd rfl (by first | exact Or.inl rfl | exact Or.inr rfl)) (pss_one (ps_if (PW.pt (pw_or (pt_cmpR (kop_NE (K := K) hu) (pe_kn h_ways (hr.mono (by decide)) (by rfl) (pa_cons (pv 3) (pa_cons (pv 4) pa_nil))) (pe_callTy call_int1 (by rfl) g.int boot_int (pa_cons (pe_cmpR op_gt (pe_kn h_ways (hr.mono (by decide)) (by rfl) (pa_cons (pv 1) (pa_cons (pv 4) pa_nil))) pe_int (nomark _)) pa_nil)) (nomark _)) (pw_or1 (pt_cmpR (kop_NE (K := K) hu) (pe_kn h__law_fit (hr.mono (by decide)) (by rfl) (pa_cons (pv 1) (pa_cons (pv 4) pa_nil))) (pe_cmpR op_gt (pe_kn h_ways (hr.mono (by decide)) (by rfl) (pa_cons (pv 1) (pa_cons (pv 4) pa_nil))) pe_int (nomark _)) (nomark _))))) (pss_one (ps_ret pe_bl)) pss_nil)))
  (pss_cons (ps_if (PW.pt (pw_or (pt_cmpR (kop_NE (K := K) hu) (pe_kn h_growth (hr.mono (by decide)) (by rfl) (pa_cons (pv 3) pa_nil)) (pe_tup (pa_cons pe_str pa_nil)) (nomark _)) (pw_or (pt_cmpR op_notN (pe_kn h_parting (hr.mono (by decide)) (by rfl) (pa_cons (pv 1) (pa_cons (pv 3) pa_nil))) pe_non (nomark _)) (pw_or1 (pt_cmpR op_notN (pe_kn h_parting (hr.mono (by decide)) (by rfl) (pa_cons (pv 3) (pa_cons (pv 1) pa_nil))) pe_non (nomark _)))))) (pss_one (ps_ret pe_bl)) pss_nil)
  (pss_cons (ps_if (pt_not (pt_val (pe_kn h_lets_closed (hr.mono (by decide)) (by rfl) (pa_cons (pv 1) (pa_cons (pv 3) (pa_cons (pe_kn h_closed_of (hr.mono (by decide)) (by rfl) (pa_cons (pv 1) (pa_cons (pv 3) pa_nil))) pa_nil)))))) (pss_one (ps_ret pe_bl)) pss_nil)
  (pss_one (ps_ret (pe_cmpR (kop_EQ (K := K) hu) (pe_lc (own := [("_law_text", 4), ("_law_nexts", 6)]) (by rfl) nd (kpi_seq (K := K) (pe_kn h_sets_of (hr.mono (by decide)) (by rfl) (pa_cons (pv 3) pa_nil))) (blkOk_by (own := [("_law_text", 4), ("_law_nexts", 6)]) (N := ["_law_hand_here", "_law_own", "_law_told", "_law_made_here", "_law_text", "_law_turn", "_law_nexts"]) (sc := defScope s__law_right) (by decide +kernel)) (fun _ _ _ _ _ => (kpg_tup (K := K) (n := 2) rfl (pgs_cons (pg_name (i := 4) nd rfl (by first | exact Or.inl rfl | exact Or.inr rfl)) (pgs_cons (pg_name (i := 6) nd rfl (by first | exact Or.inl rfl | exact Or.inr rfl)) pgs_nil)))) (fun _ _ _ _ _ => (pts_one (pt_cmpR (kop_NE (K := K) hu) (pe_m1 PySem.F.slot_str_count PySem.F.type_str_count mt_count (pv 4) pe_str) pe_int (nomark _)))) (fun _ _ _ _ _ => (pv 4))) (pe_lst pa_nil) (nomark _)))))))))), fun H B p d0 ds hp => ?_⟩
  obtain ⟨d0', m, hh, hm, h4, h10, e⟩ := hp
  cases e
  repeat walk_at "gm"
  refine st_asg ?_
  refine ev_callG r400 rfl rfl ?_
  repeat walk_at "gm"
  refine ⟨⟨m, subs (List.range m.n), hm, hm.closed_subs.1, hm.closed_subs.2, by rw [subs_len, List.length_range]; exact Nat.le_trans (Nat.pow_le_pow_right (by decide) h4) (by decide), rfl⟩, fun d e => ?_⟩
  obtain ⟨row, hrow, rfl⟩ := e m rfl
  clear e
  have rl : row.length ≤ 16 := by
    have := nodup_sub (β := List Nat) row (subs (List.range m.n)) hrow.nodup fun S hS => hrow.rc S hS _ hm.closed_subs.1 hm.closed_subs.2
    rw [subs_len, List.length_range] at this
    exact Nat.le_trans this (Nat.le_trans (Nat.pow_le_pow_right (by decide) h4) (by decide))
  repeat walk_at "gm"
  refine ⟨by rw [List.length_map]; omega, ?_⟩
  rw [List.length_map]
  repeat walk_at "gm"
  refine tk_b (fun hb => ?_) fun hb => ?_
  · repeat walk_at "gm"
    exact ⟨d0, _, rfl, rfl, hh, rfl⟩
  have r12 : row.length ≤ 12 := by
    have := of_decide_eq_false hb
    omega
  clear hb
  have hf : Fine m row := ⟨hm, h10, hrow, r12⟩
  have hrs : ∀ S ∈ row, S.Pairwise (· < ·) ∧ ∀ r ∈ S, r < m.n := fun S hS => ⟨subs_pw (range_pw _) (hrow.rc S hS _ hm.closed_subs.1 hm.closed_subs.2), hm.rc_lt (hrow.rc S hS)⟩
  repeat walk_at "gm"
  refine st_asg ?_
  repeat walk_at "gm"
  refine ⟨⟨m, row, hm, h4, r12, hrs, rfl⟩, fun d e => ?_⟩
  rw [e m row hrs rfl]
  clear e
  repeat walk_at "gm"
  refine st_forX (α := List Nat) ?_
  refine it_listG ?_
  repeat walk_at "gm"
  refine ⟨⟨m, hm, rfl⟩, fun d e => ?_⟩
  rw [e m rfl]
  clear e
  refine ⟨_, rfl, ?_⟩
  refine eo_none (eo_some ?_)
  repeat walk_at "gm"
  rw [cut2]
  refine ⟨⟨m.sig.take 2, by rw [List.length_take]; omega, fun c hc => Mach.sig_L (List.mem_of_mem_take hc), rfl⟩, fun d ⟨wl, wl1, wlL, e⟩ => ?_⟩
  subst e
  repeat walk_at "gm"
  refine ev_lcRX (fun _ i => iD i) (List.range 4) (fun q mm Γ => ∃ d1 x y z, HandOk d1 ∧ x.isOb = false ∧ y.isOb = false ∧ z.isOb = false ∧ Γ = [.ob false d1, .dat m.d, .dat (.lst (row.map (m.tell row))), .dat (m.made row).d, x, y, z] ∧ ∃ rs : List (List Nat), mm = rs.map (fun ws => .str (mkS ws)) ∧ rs.length = q.length ∧ ∀ ws ∈ rs, ws.length ≤ 12 ∧ ∀ c ∈ ws, isL c) (by repeat walk_at "gm") (by repeat walk_at "gm") ?_
  repeat walk_at "gm"
  refine ⟨by decide, Nat.le_of_ble_eq_true rfl, idx_map iD, ⟨d0, _, _, _, hh, rfl, rfl, rfl, rfl, [], rfl, rfl, by simp⟩, fun mm Γ ⟨d1, x, y, z, h1, hx, hy, hz, hΓ, rs, hm1, hl, hr⟩ => ?_, fun q t r e mm Γ ⟨d1, x, y, z, h1, hx, hy, hz, hΓ, rs, hm1, hl, hr⟩ => ?_⟩
  · subst hΓ hm1
    rw [List.length_range] at hl
    refine op_catL rfl rfl (by rw [List.length_map, List.length_map]; omega) ?_
    have e1 : (wl.map fun ws => D.str (mkS ws)) ++ rs.map (fun ws => D.str (mkS ws)) = (wl ++ rs).map fun ws => D.str (mkS ws) := by rw [List.map_append]
    rw [e1]
    clear e1
    have gL : ∀ ws ∈ wl ++ rs, ws.length ≤ 12 ∧ ∀ c ∈ ws, isL c := fun ws h => by
      rcases List.mem_append.mp h with h | h
      · exact wlL ws h
      · exact hr ws h
    generalize wl ++ rs = gl at gL
    refine ⟨_, rfl, fun _ ws => .str (mkS ws), gl, fun _ Γ => ∃ x y z, x.isOb = false ∧ y.isOb = false ∧ z.isOb = false ∧ Γ = [.ob false d1, .dat m.d, .dat (.lst (row.map (m.tell row))), .dat (m.made row).d, x, y, z], idx_map _, ⟨x, y, z, hx, hy, hz, rfl⟩, fun q ws r e Γ ⟨x, y, z, hx, hy, hz, hΓ⟩ => ?_, fun Γ ⟨x, y, z, hx, hy, hz, hΓ⟩ => ?_⟩
    · subst hΓ
      have hws := gL ws (by rw [e]; simp)
      have eB : decide ((0 : Int) < ((m.ways ws : Nat) : Int)) = m.isLast (m.after ws) := by
        rw [Bool.eq_iff_iff, decide_eq_true_eq, ← ways_pos hm]
        omega
      repeat walk_at "gm"
      refine ev_callG rNN rfl rfl ?_
      repeat walk_at "gm"
      refine ⟨⟨m.made row, ws, hf.made, hws.1, hws.2, rfl⟩, fun d e => ?_⟩
      rw [e (m.made row) ws rfl, hf.ways]
      clear e
      repeat walk_at "gm"
      refine ev_callG rNN rfl rfl ?_
      repeat walk_at "gm"
      refine ⟨⟨m, ws, hm, hws.1, hws.2, rfl⟩, fun d e => ?_⟩
      rw [e m ws rfl]
      clear e
      repeat walk_at "gm"
      refine ⟨fun z => absurd z (by rw [eB]; cases m.isLast (m.after ws) <;> decide), fun _ => ?_⟩
      repeat walk_at "gm"
      refine ⟨⟨m, ws, hm, hws.2, rfl⟩, fun d e => ?_⟩
      rw [e m ws rfl]
      clear e
      repeat walk_at "gm"
      refine ev_callG rNN rfl rfl ?_
      repeat walk_at "gm"
      refine ⟨⟨m, ws, hm, hws.1, hws.2, rfl⟩, fun d e => ?_⟩
      rw [e m ws rfl]
      clear e
      repeat walk_at "gm"
      refine ⟨fun z => absurd z (by rw [eB]; cases m.isLast (m.after ws) <;> decide), fun _ => ?_⟩
      repeat walk_at "gm"
      exact ⟨_, y, z, rfl, hy, hz, rfl⟩
    · subst hΓ
      repeat walk_at "gm"
      refine ⟨⟨m.made row, hf.made, made_det m row, rfl⟩, fun d e => ?_⟩
      rw [e]
      clear e
      repeat walk_at "gm"
      refine op_neP (d1 := .tup [.str (Str.ofString "never")]) (d2 := .tup [.str (Str.ofString "never")]) rfl rfl shNev shNev ⟨_, rfl, ?_⟩
      refine ⟨fun z => absurd z (by decide), fun _ => ?_⟩
      repeat walk_at "gm"
      refine ⟨⟨m, m.made row, Vp1 row, hm, hf.made, hf.v1.1, hf.v1.2.1, hf.v1.2.2.1, hf.v1.2.2.2, rfl⟩, fun d e => ?_⟩
      rw [e]
      clear e
      repeat walk_at "gm"
      refine ⟨(fun z => nomatch z), fun _ => ?_⟩
      repeat walk_at "gm"
      refine ⟨⟨m.made row, m, Vp2 row, hf.made, hm, hf.v2.1, hf.v2.2.1, hf.v2.2.2.1, hf.v2.2.2.2, rfl⟩, fun d e => ?_⟩
      rw [e]
      clear e
      repeat walk_at "gm"
      refine ⟨(fun z => nomatch z), fun _ => ?_⟩
      repeat walk_at "gm"
      refine ev_callG r400 rfl rfl ?_
      repeat walk_at "gm"
      refine ⟨⟨m, m.made row, Vp1 row, hm, hf.made, hf.v1.1, hf.v1.2.1, hf.v1.2.2.1, hf.v1.2.2.2, rfl⟩, fun d e => ?_⟩
      obtain ⟨prs, bs, hpr, hpm, rfl⟩ := e m (m.made row) hm hf.made rfl
      clear e
      repeat walk_at "gm"
      refine ⟨⟨m, m.made row, Vp1 row, prs, bs, hm, hf.made, hf.v1.1, hf.v1.2.1, hf.v1.2.2.1, hf.v1.2.2.2, hpr, hpm, rfl⟩, fun d e => ?_⟩
      rw [e]
      clear e
      repeat walk_at "gm"
      refine ⟨(fun z => nomatch z), fun _ => ?_⟩
      repeat walk_at "gm"
      refine ev_lcX (α := List Nat) (by repeat walk_at "gm") (by repeat walk_at "gm") ?_
      refine it_listG ?_
      refine ev_callG r400 rfl rfl ?_
      repeat walk_at "gm"
      refine ⟨⟨m.made row, singles row.length, hf.made, hf.single.1, hf.single.2.1, hf.single.2.2, rfl⟩, fun d e => ?_⟩
      obtain ⟨row2, hrow2, rfl⟩ := e (m.made row) rfl
      clear e
      have r2 := hf.single_row hrow2
      have r2l : row2.length ≤ 12 := by
        have := nodup_sub (β := List Nat) row2 (singles row.length) hrow2.nodup fun S hS => hrow2.rc S hS _ hf.single.1 hf.single.2.1
        unfold singles at this
        rw [List.length_map, List.length_range] at this
        omega
      refine ⟨_, rfl, fun _ S => (m.made row).tell row2 S, row2, fun _ => false, fun S => .str (txt row.length S), by rw [List.length_map]; omega, idx_map _, by show (!x.isOb && (!z.isOb && true)) = true; rw [hx, hz]; rfl, ?_, fun i S hi Ha => ?_⟩
      · repeat walk_at "gm"
        refine op_eqP (d1 := .lst []) (d2 := .lst []) (by rw [show row2.filter (fun _ => false) = [] from List.filter_eq_nil_iff.mpr (fun _ _ h => nomatch h)]; rfl) rfl sh_nil sh_nil ?_
        exact ⟨d1, _, rfl, rfl, h1, rfl⟩
      · obtain ⟨j, hj, rfl⟩ := r2 S (List.mem_of_getElem? hi)
        repeat walk_at "gm"
        refine ⟨_, rfl, ?_⟩
        repeat walk_at "gm"
        refine mt_countD ?_
        rw [show Txt.count (txt (m.made row).n [j]) (Str.ofString "1") = 1 from count1 _ hf.l12 j hj]
        repeat walk_at "gm"
        refine ⟨rfl, (fun z => nomatch z), fun _ => rfl⟩
  · subst hΓ hm1
    refine ⟨by show (!y.isOb && true) = true; rw [hy]; rfl, fun Ha => ?_⟩
    repeat walk_at "gm"
    refine ⟨fun _ => ?_, fun z => nomatch z⟩
    refine ev_callM rfl rfl ?_
    repeat walk_at "gm"
    refine ⟨0, _, d1, _, _, rfl, rfl, rfl, ⟨d1, m, h1, hm, rfl⟩, fun d3 d ⟨hh3, ws, w1, w2, e3⟩ => ?_⟩
    subst e3
    refine ⟨_, rfl, d3, x, y, z, hh3, hx, hy, hz, rfl, rs ++ [ws], by rw [List.map_append]; rfl, by rw [List.length_append, List.length_append, hl]; rfl, fun a ha => ?_⟩
    rcases List.mem_append.mp ha with h | h
    · exact hr a h
    · rw [List.mem_singleton] at h
      rw [h]
      exact ⟨w1, w2⟩
end
end Gm
namespace Gm
open PySem PySem.Spec PyProof.Rows L2
local macro_rules | `(tactic| walk_at "gm") => `(tactic| first
  | (with_reducible refine st_seq ?_)
  | ((with_reducible show Tg _ (gName _) _ _ _); refine tg_nameG rfl ?_)
  | ((with_reducible show Tg _ (gTup _ _ _) _ _ _); refine tg_tup (by rfl) ?_)
  | (with_reducible refine tgs_cons ?_)
  | (with_reducible refine tgs_nil ?_)
  | (with_reducible refine tgin_name (by decide))
  | (with_reducible refine tgin_tup ?_)
  | (with_reducible refine tgsin_cons ?_ ?_ ?_ ?_)
  | (with_reducible exact tgsin_nil)
  | (with_reducible exact tgm_name)
  | (with_reducible refine tgm_tup ?_)
  | (with_reducible refine tgsm_cons ?_ ?_)
  | (with_reducible exact tgsm_nil)
  | (with_reducible refine ev_neg ?_)
  | ((with_reducible show ∃ i, Rz.d (D.int _) = Rz.d (D.int i) ∧ _); refine ⟨_, rfl, ?_⟩)
  | (with_reducible refine it_enumG ?_)
  | (with_reducible refine it_rngG ?_)
  | (with_reducible refine st_if ?_)
  | (with_reducible refine st_ret ?_)
  | (with_reducible refine st_retN ?_)
  | (with_reducible refine st_drop ?_)
  | (with_reducible refine st_next ?_)
  | (with_reducible refine st_cont ?_)
  | (with_reducible refine et_B ?_)
  | (with_reducible refine et_test ?_)
  | (with_reducible refine et_not ?_)
  | (with_reducible refine et_and ?_)
  | (with_reducible refine et_or ?_)
  | (with_reducible refine ev_andV ?_)
  | (with_reducible refine ev_orV ?_)
  | (with_reducible refine ev_notV ?_)
  | (with_reducible refine ev_if ?_)
  | (with_reducible refine ev_chain ?_)
  | (with_reducible refine ev_op' ?_)
  | (with_reducible refine ev_tupG ?_)
  | (with_reducible refine ev_lstG ?_)
  | (with_reducible refine ev_callG rs_nil rfl rfl ?_)
  | (with_reducible refine ev_cb ?_)
  | (with_reducible refine ev_bm ?_)
  | (with_reducible refine ev_bm0 ?_)
  | (with_reducible refine ev_m1 ?_)
  | (with_reducible refine ev_slice ?_)
  | (with_reducible refine eo_none ?_)
  | (with_reducible refine eo_some ?_)
  | (with_reducible refine ea_cons' ?_)
  | (with_reducible refine ea_nil ?_)
  | ((with_reducible show Ev _ (tVar _) _ _); refine ev_var rfl rfl ?_)
  | (with_reducible refine ev_int ?_)
  | (with_reducible refine ev_str ?_)
  | (with_reducible refine ev_bl ?_)
  | (with_reducible refine ev_non ?_)
  | ((with_reducible show Ev _ (tC (V.ty _)) _ _); refine ev_cx ?_)
  | ((with_reducible show ∃ b, Rz.d (D.bl _) = Rz.d (D.bl b) ∧ _); refine ⟨_, rfl, ?_⟩)
  | ((with_reducible show ∃ ds, unDs _ = some ds ∧ _); refine ⟨_, rfl, ?_⟩)
  | ((with_reducible show List.length _ ≤ 100000 ∧ _); refine and_ble rfl ?_)
  | ((with_reducible show Cb _ (rIsi _) _ _ _); refine cb_isT rfl rfl rfl (by decide) ?_)
  | ((with_reducible show Cb _ (fun xs H Q => ∃ x n, xs = [x] ∧ LenV _ x H n ∧ Q (.int n) H) _ _ _); refine cb_lenG rfl rfl ?_)
  | ((with_reducible show Op2 _ (orR rEq _) _ _ _ _); first | refine op_eqI rfl rfl ?_ | refine op_eqS rfl rfl ?_)
  | ((with_reducible show Op2 _ (orR rNe _) _ _ _ _); first | refine op_neI rfl rfl ?_ | refine op_neB rfl rfl ?_)
  | ((with_reducible show Op2 _ (rI0 _) _ _ _ _); first | refine op_cmpI rfl rfl ?_ | refine op_subI rfl rfl ?_)
  | ((with_reducible show Op2 _ (orR (rI0 _) _) _ _ _ _); refine op_addI rfl rfl ?_)
  | ((with_reducible show Op2 _ (fun x y H Q => y = V.non ∧ _) _ _ _ _); first | refine op_is rfl rfl ?_ | refine op_isnot rfl rfl ?_)
  | ((with_reducible show Op2 _ (fun x y H Q => ∃ (c : Nat) (z : Str), x = V.str ⟨#[c]⟩ ∧ _) _ _ _ _); refine op_inSign rfl rfl ?_)
  | ((with_reducible show Op2 _ (rIx _) _ _ _ _); refine op_ix rfl rfl rfl (fun _ z => by cases z) ?_)
  | (with_reducible refine ev_newN rfl ?_)
  | (with_reducible refine ev_newI ?_)
  | ((with_reducible show Cb _ (fun xs H Q => (∃ i, xs = [V.int i] ∧ _) ∨ _) _ _ _); refine cb_intB rfl ?_)
  | ((with_reducible show Op2 _ (rIn _ _) _ _ _ _); refine op_inL rfl rfl ?_)
  | (with_reducible refine it_listG ?_)
  | (with_reducible refine et_yes ?_)
  | ((with_reducible show ∃ ds, unD _ = some (D.lst ds) ∧ _); refine ⟨_, rfl, ?_⟩)
  | ((with_reducible show ∃ ds, unDs _ = some [D.lst ds] ∧ _); refine ⟨_, rfl, ?_⟩)
  | ((with_reducible show ∃ n, unDs _ = some [iD n] ∧ _); refine ⟨_, rfl, ?_⟩)
  | ((with_reducible show (∃ d, vw _ _ = some d ∧ tyD _ d) ∧ _); refine ⟨⟨_, rfl, rfl⟩, ?_⟩)
  | ((with_reducible show Mt _ rAppend (Rz.o _) [Rz.d _] _ _); refine mt_app rfl ?_ ?_)
  | (with_reducible refine it_enumS ?_)
  | ((with_reducible show ∃ s, unDs _ = some [D.str s] ∧ _); refine ⟨_, rfl, ?_⟩))
abbrev s_first_text : Stmt := topS 37
theorem sc_first_text : FnScope ["signs", "start", "goal", "nexts", "known", "waiting", "some", "text", "sign", "found", "here", "to"] ["signs", "start", "goal", "nexts"] (defScope s_first_text) := ⟨rfl, rfl, rfl, by decide +kernel, rfl, by decide +kernel, by decide +kernel⟩
open NdefX LamX
def wD (p : List D × List Nat) : D := .tup [.lst p.1, .str (mkS p.2)]
structure FI (W : Wk) (kn : List D) (ws : List (List D × List Nat)) : Prop where
  nd : kn.Nodup
  kd : ∀ a ∈ kn, a ∈ W.dom
  wd : ∀ p ∈ ws, (∀ a ∈ p.1, a ∈ W.dom) ∧ p.2.length ≤ kn.length ∧ ∀ c ∈ p.2, c ∈ W.sigs
  wl : ws.length ≤ kn.length + 1
theorem sh_wD {W : Wk} (h : W.Ok) {p : List D × List Nat} (hp : (∀ a ∈ p.1, a ∈ W.dom) ∧ ∀ c ∈ p.2, c ∈ W.sigs) : Sh 52 (wD p) := by
  refine sh_tup (n := 51) fun d hd => ?_
  rcases List.mem_cons.mp hd with rfl | hd
  · exact sh_lst (n := 50) fun a ha => h.sh a (hp.1 a ha)
  · rw [List.mem_singleton] at hd
    subst hd
    refine sh_str fun c hc => ?_
    have := (h.sgs c (hp.2 c (by simpa [mkS] using hc))).2
    omega
section
variable {P : Program} {w : World} {K : PySem.W.Frag} {mg : Str → Option Value} {base : Heap} {T : List NdefX.NTab} {f : Addr} {fd : FuncData}
theorem ft_first_text (F : FnP K "first_text" "first_text" s_first_text [] f fd) (g : Bl mg) (c : Cn mg) : FtOk P w K mg base T 1 2 f fd ["signs", "start", "goal", "nexts"] := by
  obtain ⟨oc, od, dV, kV, doc, pm, an, cdv, ct, osl, rfl, lk, hcd, _, _⟩ := F.ex
  refine ⟨rfl, fun A outer s H B args us vs Q E W ga F tv td y qs hr e0 hb rv hW Fn hg hc C hS hN hT rt rd q => ?_⟩
  have hl3 : vs.length = 3 := rd.length
  refine run_ofS lk hcd sc_first_text hr e0 hb rv (by rw [List.length_append, hl3]; rfl) fun hr => ?_
  have hu := hr.units
  have hu1 := hu_of hr
  have hu2 := hu65 hr
  have nd := sc_first_text.nd
  refine ⟨_, PSs.nox (pss_cons (ps_set (i := 4) nd rfl (by first | exact Or.inl rfl | exact Or.inr rfl) (kpe (t' := tNewN w) pe_dnewN))
  (pss_cons (ps_set (i := 5) nd rfl (by first | exact Or.inl rfl | exact Or.inr rfl) (pe_lst (pa_cons (pe_tup (pa_cons (pe_lst (pa_cons (pv 1) pa_nil)) (pa_cons pe_str pa_nil))) pa_nil)))
  (pss_cons (ps_while PassesOwn.never (pt_cmpR (kop_NE (K := K) hu) (pv 5) (pe_lst pa_nil) (nomark _)) (pss_cons (ps_asg (pe_bm PySem.F.plainAttrs_list PySem.F.slot_list_pop PySem.F.type_list_pop mt_popAt (pv 5) (pa_cons pe_int pa_nil)) (kpg_tup (K := K) (n := 2) rfl (pgs_cons (pg_name (i := 6) nd rfl (by first | exact Or.inl rfl | exact Or.inr rfl)) (pgs_cons (pg_name (i := 7) nd rfl (by first | exact Or.inl rfl | exact Or.inr rfl)) pgs_nil))))
  (pss_one (ps_for PassesOwn.never rfl (kpi_seq (K := K) (pv 0)) (pg_name (i := 8) nd rfl (by first | exact Or.inl rfl | exact Or.inr rfl)) (pss_cons (ps_set (i := 9) nd rfl (by first | exact Or.inl rfl | exact Or.inr rfl) (pe_lst pa_nil))
  (pss_cons (ps_for PassesOwn.never rfl (kpi_seq (K := K) (pv 6)) (pg_name (i := 10) nd rfl (by first | exact Or.inl rfl | exact Or.inr rfl)) (pss_one (ps_for PassesOwn.never rfl (kpi_seq (K := K) (pe_callP (i := 3) Fn hr (by decide) pass0 C rfl rfl (Or.inl rfl) (pa_cons (pv 10) (pa_cons (pv 8) pa_nil)))) (pg_name (i := 11) nd rfl (by first | exact Or.inl rfl | exact Or.inr rfl)) (pss_one (ps_if (pt_cmpR (kop_notInDN (w := w) hu) (pv 11) (pv 4) (by rfl)) (pss_cons (ps_asg pe_bl (pg_sub (pv 4) (pv 11) (kset_dN (w := w) hu)))
  (pss_one (ps_expr (pe_bm PySem.F.plainAttrs_list PySem.F.slot_list_append PySem.F.type_list_append mt_append (pv 9) (pa_cons (pv 11) pa_nil))))) pss_nil)))))
  (pss_cons (ps_if (pt_cmpR (kop_inD (K := K) hu2) (pv 2) (pv 9) (by rfl)) (pss_one (ps_ret (pe_op op_ADD (pv 7) (pv 8)))) pss_nil)
  (pss_one (ps_if (pt_cmpR (kop_NE (K := K) hu) (pv 9) (pe_lst pa_nil) (nomark _)) (pss_one (ps_expr (pe_bm PySem.F.plainAttrs_list PySem.F.slot_list_append PySem.F.type_list_append mt_append (pv 5) (pa_cons (pe_tup (pa_cons (pv 9) (pa_cons (pe_op op_ADD (pv 7) (pv 8)) pa_nil))) pa_nil)))) pss_nil)))))))))
  (pss_one (ps_ret pe_non))))), ?_⟩
  refine st_run (w := w) (env_startK (N := ["signs", "start", "goal", "nexts", "known", "waiting", "some", "text", "sign", "found", "here", "to"]) (ks := [.dat (.lst (W.sigs.map sg)), .dat W.st, .dat W.goal, .raw (.ref ga)]) hS hN hT (by rw [List.length_append, hl3]; rfl) fun i k hk => ?_) ?_ q
  · match i, hk with
    | 0, hk => cases hk; obtain ⟨v, h1, h2⟩ := rd.get' (i := 0) rfl; exact ⟨v, by rw [List.getElem?_append_left (by omega)]; exact h1, .inl ⟨_, rfl, h2⟩⟩
    | 1, hk => cases hk; obtain ⟨v, h1, h2⟩ := rd.get' (i := 1) rfl; exact ⟨v, by rw [List.getElem?_append_left (by omega)]; exact h1, .inl ⟨_, rfl, h2⟩⟩
    | 2, hk => cases hk; obtain ⟨v, h1, h2⟩ := rd.get' (i := 2) rfl; exact ⟨v, by rw [List.getElem?_append_left (by omega)]; exact h1, .inl ⟨_, rfl, h2⟩⟩
    | 3, hk => cases hk; exact ⟨.ref ga, by rw [List.getElem?_append_right (by omega), hl3]; rfl, .inr rfl⟩
    | n + 4, hk => cases hk
  show St _ _ [.dat (.lst (W.sigs.map sg)), .dat W.st, .dat W.goal, .raw (.ref ga), .any, .any, .any, .any, .any, .any, .any, .any] _
  repeat walk_at "gm"
  refine st_asg ?_
  repeat walk_at "gm"
  refine st_asg ?_
  repeat walk_at "gm"
  have hsW : ∀ {kn : List D} {ws : List (List D × List Nat)}, FI W kn ws → Sh 60 (.lst (ws.map wD)) := fun {kn ws} h => sh_lst (n := 59) fun d hd => by
    obtain ⟨p, hp, rfl⟩ := List.mem_map.mp hd
    exact (sh_wD hW ⟨(h.wd p hp).1, (h.wd p hp).2.2⟩).mono (by decide)
  have hle : ∀ {kn : List D} {ws : List (List D × List Nat)}, FI W kn ws → kn.length ≤ W.dom.length := fun {kn ws} h => kn_le h.nd h.kd
  have hdl := hW.len
  refine st_while (fun m Γ => ∃ (kn : List D) (ws : List (List D × List Nat)) (x6 x7 x8 x9 x10 x11 : Kd), Γ = [.dat (.lst (W.sigs.map sg)), .dat W.st, .dat W.goal, .raw (.ref ga), .ob true (.dN (knD kn)), .ob true (.lst (ws.map wD)), x6, x7, x8, x9, x10, x11] ∧ FI W kn ws ∧ m = 2 * (W.dom.length - kn.length) + ws.length) (2 * W.dom.length + 1)
    ⟨[], [([W.st], [])], _, _, _, _, _, _, rfl, ⟨List.nodup_nil, fun a h => (nomatch h), fun p hp => by
      rw [List.mem_singleton] at hp
      subst hp
      exact ⟨fun a ha => by rw [List.mem_singleton] at ha; subst ha; exact hW.st, Nat.zero_le _, fun c h => (nomatch h)⟩, Nat.le_refl _⟩, rfl⟩ ?_
  rintro m Γ ⟨kn, ws, x6, x7, x8, x9, x10, x11, rfl, hI, rfl⟩
  repeat walk_at "gm"
  refine op_neP rfl rfl (hsW hI) sh_nil ⟨_, rfl, ?_⟩
  rw [eqD_nil]
  refine tk_b (fun hb => ?_) fun hb => ?_
  · cases ws with
    | nil => cases hb
    | cons p ws =>
    have hp := hI.wd p List.mem_cons_self
    have hws : ∀ q ∈ ws, q ∈ p :: ws := fun q h => List.mem_cons_of_mem _ h
    have hwl : ws.length ≤ kn.length := Nat.le_of_succ_le_succ hI.wl
    repeat walk_at "gm"
    refine st_asg ?_
    repeat walk_at "gm"
    refine mt_pop0 (d := .tup [.lst p.1, .str (mkS p.2)]) (ds := ws.map wD) rfl ?_
    repeat walk_at "gm"
    refine st_forG (fun _ c => sg c) W.sigs (fun q Γ => ∃ (kn' : List D) (ws' : List (List D × List Nat)) (x8 x9 x10 x11 : Kd), Γ = [.dat (.lst (W.sigs.map sg)), .dat W.st, .dat W.goal, .raw (.ref ga), .ob true (.dN (knD kn')), .ob true (.lst (ws'.map wD)), .dat (.lst p.1), .dat (.str (mkS p.2)), x8, x9, x10, x11] ∧ FI W kn' ws' ∧ ws'.length ≤ kn'.length ∧ p.2.length ≤ kn'.length ∧ 2 * (W.dom.length - kn'.length) + ws'.length ≤ 2 * (W.dom.length - kn.length) + ws.length) ?_
    refine it_listG ?_
    repeat walk_at "gm"
    refine ⟨idx_map sg, ⟨kn, ws, _, _, _, _, rfl, ⟨hI.nd, hI.kd, fun q h => hI.wd q (hws q h), Nat.le_succ_of_le hwl⟩, hwl, hp.2.1, Nat.le_refl _⟩, fun q c r e Γ ⟨kn', ws', x8, x9, x10, x11, hΓ, hI', hwl', hpl, hm⟩ => ?_, fun Γ ⟨kn', ws', x8, x9, x10, x11, hΓ, hI', hwl', hpl, hm⟩ => ?_⟩
    · subst hΓ
      have hcs : c ∈ W.sigs := by rw [e]; simp
      repeat walk_at "gm"
      refine st_asg ?_
      repeat walk_at "gm"
      refine st_forG (fun _ a => a) p.1 (fun q2 Γ => ∃ (kn2 fd2 : List D) (x10 x11 : Kd), Γ = [.dat (.lst (W.sigs.map sg)), .dat W.st, .dat W.goal, .raw (.ref ga), .ob true (.dN (knD kn2)), .ob true (.lst (ws'.map wD)), .dat (.lst p.1), .dat (.str (mkS p.2)), .dat (sg c), .ob true (.lst fd2), x10, x11] ∧ kn2.Nodup ∧ (∀ a ∈ kn2, a ∈ W.dom) ∧ (∀ a ∈ fd2, a ∈ W.dom) ∧ kn2.length = kn'.length + fd2.length) ?_
      refine it_listG ?_
      repeat walk_at "gm"
      refine ⟨idx_mapE (List.map_id'' (fun _ => rfl) _).symm, ⟨kn', [], _, _, rfl, hI'.nd, hI'.kd, fun a h => (nomatch h), rfl⟩, fun q2 a r2 e2 Γ ⟨kn2, fd2, x10, x11, hΓ, k1, k2, k3, k4⟩ => ?_, fun Γ ⟨kn2, fd2, x10, x11, hΓ, k1, k2, k3, k4⟩ => ?_⟩
      · subst hΓ
        have ha : a ∈ W.dom := hp.1 a (by rw [e2]; simp)
        repeat walk_at "gm"
        refine st_forG (fun _ b => b) (W.nx a c) (fun q3 Γ => ∃ (kn3 fd3 : List D) (x11 : Kd), Γ = [.dat (.lst (W.sigs.map sg)), .dat W.st, .dat W.goal, .raw (.ref ga), .ob true (.dN (knD kn3)), .ob true (.lst (ws'.map wD)), .dat (.lst p.1), .dat (.str (mkS p.2)), .dat (sg c), .ob true (.lst fd3), .dat a, x11] ∧ kn3.Nodup ∧ (∀ a ∈ kn3, a ∈ W.dom) ∧ (∀ a ∈ fd3, a ∈ W.dom) ∧ kn3.length = kn'.length + fd3.length) ?_
        refine it_listG ?_
        refine ev_callP rfl hg hc rfl rfl rfl rt ?_
        repeat walk_at "gm"
        refine ⟨⟨rfl, a, ha, c, hcs, rfl⟩, fun d e3 => ?_⟩
        rw [e3 a c rfl]
        refine ⟨_, rfl, idx_mapE (List.map_id'' (fun _ => rfl) _).symm, ⟨kn2, fd2, _, rfl, k1, k2, k3, k4⟩, fun q3 b r3 e3 Γ ⟨kn3, fd3, x11, hΓ, k1, k2, k3, k4⟩ => ?_, fun Γ ⟨kn3, fd3, x11, hΓ, k1, k2, k3, k4⟩ => ?_⟩
        · subst hΓ
          have hbd : b ∈ W.dom := hW.cl a ha c hcs b (by rw [e3]; simp)
          have kl := kn_le k1 k2
          repeat walk_at "gm"
          refine op_inN (dk := b) rfl (hW.key b hbd) rfl rfl ⟨_, rfl, ?_⟩
          refine tk_b (fun hb => ?_) fun hb => ?_
          · have nb : b ∉ kn3 := fun z => by
              rw [if_pos rfl, (kn_has hW k2 hbd).mpr z] at hb
              cases hb
            repeat walk_at "gm"
            refine st_putN rfl ?_
            repeat walk_at "gm"
            refine ⟨_, rfl, ⟨_, _, rfl⟩, ?_⟩
            repeat walk_at "gm"
            refine ⟨_, _, _, rfl, hW.key b hbd, rfl, by unfold knD; rw [List.length_map]; omega, ?_⟩
            rw [kn_put hW k2 hbd nb]
            repeat walk_at "gm"
            · omega
            refine ⟨kn3 ++ [b], fd3 ++ [b], _, rfl, List.nodup_append.mpr ⟨k1, by simp, fun x hx y hy z => by
              rw [List.mem_singleton] at hy
              subst hy z
              exact nb hx⟩, fun x hx => (List.mem_append.mp hx).elim (k2 x) fun h => by rw [List.mem_singleton] at h; subst h; exact hbd, fun x hx => (List.mem_append.mp hx).elim (k3 x) fun h => by rw [List.mem_singleton] at h; subst h; exact hbd, by rw [List.length_append, List.length_append, k4]; rfl⟩
          · repeat walk_at "gm"
            exact ⟨kn3, fd3, _, rfl, k1, k2, k3, k4⟩
        · subst hΓ
          exact ⟨kn3, fd3, _, _, rfl, k1, k2, k3, k4⟩
      · subst hΓ
        have kl := kn_le k1 k2
        repeat walk_at "gm"
        refine op_inP rfl rfl (hW.shG.mono (by decide)) (fun d hd => (hW.sh d (k3 d hd)).mono (by decide)) ⟨_, rfl, ?_⟩
        rw [show (fd2.any fun z => eqD z W.goal) = false from List.any_eq_false.mpr fun z hz => by rw [hW.off z (k3 z hz)]; decide]
        refine tk_f rfl ?_
        repeat walk_at "gm"
        refine op_neP rfl rfl (sh_lst (n := 59) fun d hd => (hW.sh d (k3 d hd)).mono (by decide)) sh_nil ⟨_, rfl, ?_⟩
        rw [eqD_nil]
        refine tk_b (fun hb => ?_) fun hb => ?_
        · have fl : 1 ≤ fd2.length := by
            cases fd2 with
            | nil => cases hb
            | cons _ _ => exact Nat.succ_le_succ (Nat.zero_le _)
          refine st_freeze 9 rfl ?_
          repeat walk_at "gm"
          have kl := kn_le k1 k2
          refine op_addS (t := s1 c) rfl rfl (by rw [mkS_len]; show _ + 1 ≤ _; omega) ?_
          rw [mkS_app]
          repeat walk_at "gm"
          · rw [List.length_map]; omega
          refine ⟨kn2, ws' ++ [(fd2, p.2 ++ [c])], _, _, _, _, by rw [List.map_append]; rfl, ⟨k1, k2, fun q h => ?_, by rw [List.length_append]; show ws'.length + 1 ≤ _; omega⟩, by rw [List.length_append]; show ws'.length + 1 ≤ _; omega, by omega, by rw [List.length_append]; show 2 * (W.dom.length - kn2.length) + (ws'.length + 1) ≤ _; omega⟩
          rcases List.mem_append.mp h with h | h
          · have := hI'.wd q h
            exact ⟨this.1, by omega, this.2.2⟩
          · rw [List.mem_singleton] at h
            subst h
            exact ⟨k3, by rw [List.length_append]; show p.2.length + 1 ≤ _; omega, fun x hx => (List.mem_append.mp hx).elim (hp.2.2 x) fun h => by rw [List.mem_singleton] at h; subst h; exact hcs⟩
        · have fl : fd2 = [] := by
            cases fd2 with
            | nil => rfl
            | cons _ _ => cases hb
          subst fl
          have k5 : kn2.length = kn'.length := k4
          repeat walk_at "gm"
          refine ⟨kn2, ws', _, _, _, _, rfl, ⟨k1, k2, fun q h => ?_, by rw [k5]; exact hI'.wl⟩, by rw [k5]; exact hwl', by rw [k5]; exact hpl, by rw [k5]; exact hm⟩
          have := hI'.wd q h
          exact ⟨this.1, by rw [k5]; exact this.2.1, this.2.2⟩
    · subst hΓ
      exact ⟨_, by simp only [List.length_cons]; omega, kn', ws', _, _, _, _, _, _, rfl, hI', rfl⟩
  · cases ws with
    | cons p ws => cases hb
    | nil =>
    repeat walk_at "gm"
    rfl
end
end Gm
namespace Gm
open PySem PySem.Spec PyProof.Rows L2
local macro_rules | `(tactic| walk_at "gm") => `(tactic| first
  | (with_reducible refine st_seq ?_)
  | ((with_reducible show Tg _ (gName _) _ _ _); refine tg_nameG rfl ?_)
  | ((with_reducible show Tg _ (gTup _ _ _) _ _ _); refine tg_tup (by rfl) ?_)
  | (with_reducible refine tgs_cons ?_)
  | (with_reducible refine tgs_nil ?_)
  | (with_reducible refine tgin_name (by decide))
  | (with_reducible refine tgin_tup ?_)
  | (with_reducible refine tgsin_cons ?_ ?_ ?_ ?_)
  | (with_reducible exact tgsin_nil)
  | (with_reducible exact tgm_name)
  | (with_reducible refine tgm_tup ?_)
  | (with_reducible refine tgsm_cons ?_ ?_)
  | (with_reducible exact tgsm_nil)
  | (with_reducible refine ev_neg ?_)
  | ((with_reducible show ∃ i, Rz.d (D.int _) = Rz.d (D.int i) ∧ _); refine ⟨_, rfl, ?_⟩)
  | (with_reducible refine it_enumG ?_)
  | (with_reducible refine it_rngG ?_)
  | (with_reducible refine st_if ?_)
  | (with_reducible refine st_ret ?_)
  | (with_reducible refine st_retN ?_)
  | (with_reducible refine st_drop ?_)
  | (with_reducible refine st_next ?_)
  | (with_reducible refine st_cont ?_)
  | (with_reducible refine et_B ?_)
  | (with_reducible refine et_test ?_)
  | (with_reducible refine et_not ?_)
  | (with_reducible refine et_and ?_)
  | (with_reducible refine et_or ?_)
  | (with_reducible refine ev_andV ?_)
  | (with_reducible refine ev_orV ?_)
  | (with_reducible refine ev_notV ?_)
  | (with_reducible refine ev_if ?_)
  | (with_reducible refine ev_chain ?_)
  | (with_reducible refine ev_op' ?_)
  | (with_reducible refine ev_tupG ?_)
  | (with_reducible refine ev_lstG ?_)
  | (with_reducible refine ev_callG rs_nil rfl rfl ?_)
  | (with_reducible refine ev_cb ?_)
  | (with_reducible refine ev_bm ?_)
  | (with_reducible refine ev_bm0 ?_)
  | (with_reducible refine ev_m1 ?_)
  | (with_reducible refine ev_slice ?_)
  | (with_reducible refine eo_none ?_)
  | (with_reducible refine eo_some ?_)
  | (with_reducible refine ea_cons' ?_)
  | (with_reducible refine ea_nil ?_)
  | ((with_reducible show Ev _ (tVar _) _ _); refine ev_var rfl rfl ?_)
  | (with_reducible refine ev_int ?_)
  | (with_reducible refine ev_str ?_)
  | (with_reducible refine ev_bl ?_)
  | (with_reducible refine ev_non ?_)
  | ((with_reducible show Ev _ (tC (V.ty _)) _ _); refine ev_cx ?_)
  | ((with_reducible show ∃ b, Rz.d (D.bl _) = Rz.d (D.bl b) ∧ _); refine ⟨_, rfl, ?_⟩)
  | ((with_reducible show ∃ ds, unDs _ = some ds ∧ _); refine ⟨_, rfl, ?_⟩)
  | ((with_reducible show List.length _ ≤ 100000 ∧ _); refine and_ble rfl ?_)
  | ((with_reducible show Cb _ (rIsi _) _ _ _); refine cb_isT rfl rfl rfl (by decide) ?_)
  | ((with_reducible show Cb _ (fun xs H Q => ∃ x n, xs = [x] ∧ LenV _ x H n ∧ Q (.int n) H) _ _ _); refine cb_lenG rfl rfl ?_)
  | ((with_reducible show Op2 _ (orR rEq _) _ _ _ _); first | refine op_eqI rfl rfl ?_ | refine op_eqS rfl rfl ?_)
  | ((with_reducible show Op2 _ (orR rNe _) _ _ _ _); first | refine op_neI rfl rfl ?_ | refine op_neB rfl rfl ?_)
  | ((with_reducible show Op2 _ (rI0 _) _ _ _ _); first | refine op_cmpI rfl rfl ?_ | refine op_subI rfl rfl ?_)
  | ((with_reducible show Op2 _ (orR (rI0 _) _) _ _ _ _); refine op_addI rfl rfl ?_)
  | ((with_reducible show Op2 _ (fun x y H Q => y = V.non ∧ _) _ _ _ _); first | refine op_is rfl rfl ?_ | refine op_isnot rfl rfl ?_)
  | ((with_reducible show Op2 _ (fun x y H Q => ∃ (c : Nat) (z : Str), x = V.str ⟨#[c]⟩ ∧ _) _ _ _ _); refine op_inSign rfl rfl ?_)
  | ((with_reducible show Op2 _ (rIx _) _ _ _ _); refine op_ix rfl rfl rfl (fun _ z => by cases z) ?_)
  | (with_reducible refine ev_newN rfl ?_)
  | (with_reducible refine ev_newI ?_)
  | ((with_reducible show Cb _ (fun xs H Q => (∃ i, xs = [V.int i] ∧ _) ∨ _) _ _ _); refine cb_intB rfl ?_)
  | ((with_reducible show Op2 _ (rIn _ _) _ _ _ _); refine op_inL rfl rfl ?_)
  | (with_reducible refine it_listG ?_)
  | (with_reducible refine et_yes ?_)
  | ((with_reducible show ∃ ds, unD _ = some (D.lst ds) ∧ _); refine ⟨_, rfl, ?_⟩)
  | ((with_reducible show ∃ ds, unDs _ = some [D.lst ds] ∧ _); refine ⟨_, rfl, ?_⟩)
  | ((with_reducible show ∃ n, unDs _ = some [iD n] ∧ _); refine ⟨_, rfl, ?_⟩)
  | ((with_reducible show (∃ d, vw _ _ = some d ∧ tyD _ d) ∧ _); refine ⟨⟨_, rfl, rfl⟩, ?_⟩)
  | ((with_reducible show Mt _ rAppend (Rz.o _) [Rz.d _] _ _); refine mt_app rfl ?_ ?_)
  | (with_reducible refine it_enumS ?_)
  | ((with_reducible show ∃ s, unDs _ = some [D.str s] ∧ _); refine ⟨_, rfl, ?_⟩))
abbrev s_by_signs : Stmt := topS 36
theorem sc_by_signs : FnScope ["machine", "found", "room", "sign", "to"] ["machine"] (defScope s_by_signs) := ⟨rfl, rfl, rfl, by decide +kernel, rfl, by decide +kernel, by decide +kernel⟩
def tbD (st : List (Nat × Nat × Nat)) : List (D × D) := st.map fun s => (.tup [iD s.1, sg s.2.1], .lst [iD s.2.2])
abbrev pr_by_signs (ds : List D) : Prop := ∃ m : Mach, m.Ok ∧ m.Det ∧ ds = [m.d]
abbrev po_by_signs (ds : List D) (d : D) : Prop := ∀ m : Mach, ds = [m.d] → d = .dN (tbD m.st)
abbrev K_by_signs (P : Program) (w : World) (K : PySem.W.Frag) (mg : Str → Option Value) (base : Heap) (T : List NdefX.NTab) : Prop := KnR P w K mg base T "by_signs" 1 [] pr_by_signs po_by_signs
theorem ky_rs {a b : Nat × Nat} (h : kyD (.tup [iD a.1, sg a.2]) = kyD (.tup [iD b.1, sg b.2])) : a = b := by
  obtain ⟨a1, a2⟩ := a
  obtain ⟨b1, b2⟩ := b
  simp only [iD, sg, kyD, kyDs, NestedKey.tup.injEq, List.cons.injEq, NestedKey.num.injEq, NestedKey.text.injEq, Int.natCast_inj, and_true] at h
  rw [h.1, s1_inj h.2]
theorem keyOk_rs (a b : Nat) : KeyOk (.tup [iD a, sg b]) := ⟨⟨_, rfl⟩, rfl, Nat.le_of_ble_eq_true rfl⟩
section
variable {P : Program} {w : World} {K : PySem.W.Frag} {mg : Str → Option Value} {base : Heap} {T : List NdefX.NTab} {f : Addr} {fd : FuncData}
theorem ok_by_signs (F : FnP K "by_signs" "by_signs" s_by_signs [] f fd) (g : Bl mg) (c : Cn mg)  : FnOk P w K mg base CX0 1 f fd ["machine"] (spR w T pr_by_signs po_by_signs) := by
  refine fnR F sc_by_signs ?_ fun cdv A outer s H E hr => ?_
  · rintro ds h
    (repeat (obtain ⟨_, h⟩ := h))
    first
      | rfl
      | (subst h; rfl)
  have hu := hr.units
  have hu1 := hu_of hr
  have nd := sc_by_signs.nd
  refine ⟨_, (pss_cons (ps_set (i := 1) nd rfl (by first | exact Or.inl rfl | exact Or.inr rfl) (kpe (t' := tNewN w) pe_dnewN))
  (pss_cons (ps_for PassesOwn.never rfl (kpi_seq (K := K) (pe_ix (kix_seq (K := K)) (pv 0) pe_int (fun _ _ => rfl))) (kpg_tup (K := K) (n := 3) rfl (pgs_cons (pg_name (i := 2) nd rfl (by first | exact Or.inl rfl | exact Or.inr rfl)) (pgs_cons (pg_name (i := 3) nd rfl (by first | exact Or.inl rfl | exact Or.inr rfl)) (pgs_cons (pg_name (i := 4) nd rfl (by first | exact Or.inl rfl | exact Or.inr rfl)) pgs_nil)))) (pss_one (ps_expr (pe_bm PySem.F.plainAttrs_list PySem.F.slot_list_append PySem.F.type_list_append mt_append (pe_sdN hu (pv 1) (pe_tup (pa_cons (pv 2) (pa_cons (pv 3) pa_nil))) (pe_lst pa_nil) ⟨by rfl, by rfl, by rfl, by rfl⟩) (pa_cons (pv 4) pa_nil)))))
  (pss_one (ps_ret (pv 1))))), fun H B ds hp => ?_⟩
  obtain ⟨m, hm, hd, rfl⟩ := hp
  repeat walk_at "gm"
  refine st_asg ?_
  repeat walk_at "gm"
  refine st_forG (fun _ s => stD s) m.st (fun q Γ => ∃ x2 x3 x4, Γ = [.dat m.d, .ob true (.dN (tbD q)), x2, x3, x4]) ?_
  refine it_listG ?_
  repeat walk_at "gm"
  refine ⟨idx_map stD, ⟨_, _, _, rfl⟩, fun q s r e Γ ⟨x2, x3, x4, hΓ⟩ => ?_, fun Γ ⟨x2, x3, x4, hΓ⟩ => ?_⟩
  · subst hΓ
    have ql : q.length ≤ 200 := by
      have := hm.stL
      rw [e, List.length_append] at this
      omega
    have hn : atN (tbD q) (kyD (.tup [iD s.1, sg s.2.1])) = none := by
      refine atN_none (f := fun s : Nat × Nat × Nat => D.tup [iD s.1, sg s.2.1]) (g := fun s => D.lst [iD s.2.2]) fun t ht z => ?_
      have z1 := ky_rs (a := (t.1, t.2.1)) (b := (s.1, s.2.1)) z
      simp only [Prod.mk.injEq] at z1
      have hs : t = s := hd t (by rw [e]; exact List.mem_append_left _ ht) s (by rw [e]; simp) z1.1 z1.2
      subst hs
      have := hm.stD
      rw [e] at this
      exact (List.nodup_append.mp this).2.2 t ht t List.mem_cons_self rfl
    repeat (first | ((with_reducible show Tg _ _ _ _ _); walk_at "gm") | ((with_reducible show Tgs _ _ _ _ _); walk_at "gm"))
    refine st_sdApp rfl ⟨_, _, rfl⟩ ?_
    repeat walk_at "gm"
    refine ⟨_, _, _, _, rfl, keyOk_rs _ _, rfl, by unfold tbD; rw [List.length_map]; omega, hn, rfl, ?_⟩
    have e2 : tbD q ++ [(D.tup [iD s.1, sg s.2.1], D.lst [iD s.2.2])] = tbD (q ++ [s]) := by
      unfold tbD
      rw [List.map_append]
      rfl
    rw [e2]
    exact ⟨_, _, _, rfl⟩
  · subst hΓ
    refine st_freeze 1 rfl ?_
    repeat walk_at "gm"
    refine ⟨_, rfl, fun m' e => ?_⟩
    simp only [List.cons.injEq, and_true] at e
    rw [← Mach.d_inj e]
end
end Gm
namespace Gm
open PySem PySem.Spec PyProof.Rows L2
local macro_rules | `(tactic| walk_at "gm") => `(tactic| first
  | (with_reducible refine st_seq ?_)
  | ((with_reducible show Tg _ (gName _) _ _ _); refine tg_nameG rfl ?_)
  | ((with_reducible show Tg _ (gTup _ _ _) _ _ _); refine tg_tup (by rfl) ?_)
  | (with_reducible refine tgs_cons ?_)
  | (with_reducible refine tgs_nil ?_)
  | (with_reducible refine tgin_name (by decide))
  | (with_reducible refine tgin_tup ?_)
  | (with_reducible refine tgsin_cons ?_ ?_ ?_ ?_)
  | (with_reducible exact tgsin_nil)
  | (with_reducible exact tgm_name)
  | (with_reducible refine tgm_tup ?_)
  | (with_reducible refine tgsm_cons ?_ ?_)
  | (with_reducible exact tgsm_nil)
  | (with_reducible refine ev_neg ?_)
  | ((with_reducible show ∃ i, Rz.d (D.int _) = Rz.d (D.int i) ∧ _); refine ⟨_, rfl, ?_⟩)
  | (with_reducible refine it_enumG ?_)
  | (with_reducible refine it_rngG ?_)
  | (with_reducible refine st_if ?_)
  | (with_reducible refine st_ret ?_)
  | (with_reducible refine st_retN ?_)
  | (with_reducible refine st_drop ?_)
  | (with_reducible refine st_next ?_)
  | (with_reducible refine st_cont ?_)
  | (with_reducible refine et_B ?_)
  | (with_reducible refine et_test ?_)
  | (with_reducible refine et_not ?_)
  | (with_reducible refine et_and ?_)
  | (with_reducible refine et_or ?_)
  | (with_reducible refine ev_andV ?_)
  | (with_reducible refine ev_orV ?_)
  | (with_reducible refine ev_notV ?_)
  | (with_reducible refine ev_if ?_)
  | (with_reducible refine ev_chain ?_)
  | (with_reducible refine ev_op' ?_)
  | (with_reducible refine ev_tupG ?_)
  | (with_reducible refine ev_lstG ?_)
  | (with_reducible refine ev_callG rs_nil rfl rfl ?_)
  | (with_reducible refine ev_cb ?_)
  | (with_reducible refine ev_bm ?_)
  | (with_reducible refine ev_bm0 ?_)
  | (with_reducible refine ev_m1 ?_)
  | (with_reducible refine ev_slice ?_)
  | (with_reducible refine eo_none ?_)
  | (with_reducible refine eo_some ?_)
  | (with_reducible refine ea_cons' ?_)
  | (with_reducible refine ea_nil ?_)
  | ((with_reducible show Ev _ (tVar _) _ _); refine ev_var rfl rfl ?_)
  | (with_reducible refine ev_int ?_)
  | (with_reducible refine ev_str ?_)
  | (with_reducible refine ev_bl ?_)
  | (with_reducible refine ev_non ?_)
  | ((with_reducible show Ev _ (tC (V.ty _)) _ _); refine ev_cx ?_)
  | ((with_reducible show ∃ b, Rz.d (D.bl _) = Rz.d (D.bl b) ∧ _); refine ⟨_, rfl, ?_⟩)
  | ((with_reducible show ∃ ds, unDs _ = some ds ∧ _); refine ⟨_, rfl, ?_⟩)
  | ((with_reducible show List.length _ ≤ 100000 ∧ _); refine and_ble rfl ?_)
  | ((with_reducible show Cb _ (rIsi _) _ _ _); refine cb_isT rfl rfl rfl (by decide) ?_)
  | ((with_reducible show Cb _ (fun xs H Q => ∃ x n, xs = [x] ∧ LenV _ x H n ∧ Q (.int n) H) _ _ _); refine cb_lenG rfl rfl ?_)
  | ((with_reducible show Op2 _ (orR rEq _) _ _ _ _); first | refine op_eqI rfl rfl ?_ | refine op_eqS rfl rfl ?_)
  | ((with_reducible show Op2 _ (orR rNe _) _ _ _ _); first | refine op_neI rfl rfl ?_ | refine op_neB rfl rfl ?_)
  | ((with_reducible show Op2 _ (rI0 _) _ _ _ _); first | refine op_cmpI rfl rfl ?_ | refine op_subI rfl rfl ?_)
  | ((with_reducible show Op2 _ (orR (rI0 _) _) _ _ _ _); refine op_addI rfl rfl ?_)
  | ((with_reducible show Op2 _ (fun x y H Q => y = V.non ∧ _) _ _ _ _); first | refine op_is rfl rfl ?_ | refine op_isnot rfl rfl ?_)
  | ((with_reducible show Op2 _ (fun x y H Q => ∃ (c : Nat) (z : Str), x = V.str ⟨#[c]⟩ ∧ _) _ _ _ _); refine op_inSign rfl rfl ?_)
  | ((with_reducible show Op2 _ (rIx _) _ _ _ _); refine op_ix rfl rfl rfl (fun _ z => by cases z) ?_)
  | (with_reducible refine ev_newN rfl ?_)
  | (with_reducible refine ev_newI ?_)
  | ((with_reducible show Cb _ (fun xs H Q => (∃ i, xs = [V.int i] ∧ _) ∨ _) _ _ _); refine cb_intB rfl ?_)
  | ((with_reducible show Op2 _ (rIn _ _) _ _ _ _); refine op_inL rfl rfl ?_)
  | (with_reducible refine it_listG ?_)
  | (with_reducible refine et_yes ?_)
  | ((with_reducible show ∃ ds, unD _ = some (D.lst ds) ∧ _); refine ⟨_, rfl, ?_⟩)
  | ((with_reducible show ∃ ds, unDs _ = some [D.lst ds] ∧ _); refine ⟨_, rfl, ?_⟩)
  | ((with_reducible show ∃ n, unDs _ = some [iD n] ∧ _); refine ⟨_, rfl, ?_⟩)
  | ((with_reducible show (∃ d, vw _ _ = some d ∧ tyD _ d) ∧ _); refine ⟨⟨_, rfl, rfl⟩, ?_⟩)
  | ((with_reducible show Mt _ rAppend (Rz.o _) [Rz.d _] _ _); refine mt_app rfl ?_ ?_)
  | (with_reducible refine it_enumS ?_)
  | ((with_reducible show ∃ s, unDs _ = some [D.str s] ∧ _); refine ⟨_, rfl, ?_⟩))
open NdefX LamX
abbrev s_double_text : Stmt := topS 39
theorem sc_double_text : FnScope ["table", "signs", "room", "nexts"] ["table", "signs", "room"] (defScope s_double_text) := ⟨rfl, rfl, rfl, by decide +kernel, rfl, by decide +kernel, by decide +kernel⟩
abbrev s_led_text_rounds : Stmt := topS 40
theorem sc_led_text_rounds : FnScope ["table", "signs", "room", "other", "nexts"] ["table", "signs", "room", "other"] (defScope s_led_text_rounds) := ⟨rfl, rfl, rfl, by decide +kernel, rfl, by decide +kernel, by decide +kernel⟩
abbrev s_nextsD : Stmt := (defBody s_double_text).getD 0 (.Pass ⟨0, 0, 0, 0⟩)
theorem sc_nextsD : NScC ["here", "sign", "table", "one", "other", "parted", "found", "to", "too"] ["here", "sign"] ["table"] (C8.fnScope s_nextsD) := ⟨rfl, rfl, rfl, by decide +kernel, rfl, by decide +kernel, by decide +kernel, by decide +kernel, by decide +kernel⟩
abbrev s_nextsL : Stmt := (defBody s_led_text_rounds).getD 0 (.Pass ⟨0, 0, 0, 0⟩)
theorem sc_nextsL : NScC ["here", "sign", "table", "one", "two", "three", "found", "to", "too", "last"] ["here", "sign"] ["table"] (C8.fnScope s_nextsL) := ⟨rfl, rfl, rfl, by decide +kernel, rfl, by decide +kernel, by decide +kernel, by decide +kernel, by decide +kernel⟩
/-- where a sign leads from a room -/
def dl (st : List (Nat × Nat × Nat)) (x c : Nat) : List Nat := match st.find? fun s => decide (s.1 = x ∧ s.2.1 = c) with
  | some s => [s.2.2]
  | none => []
theorem tb_get : ∀ (st : List (Nat × Nat × Nat)) (x c : Nat), (atN (tbD st) (kyD (.tup [iD x, sg c]))).getD (.lst []) = iLs (dl st x c)
  | [], _, _ => rfl
  | s :: st, x, c => by
    by_cases e : s.1 = x ∧ s.2.1 = c
    · have e1 : dl (s :: st) x c = [s.2.2] := by unfold dl; rw [List.find?_cons_of_pos (by simpa using e)]
      rw [e1]
      obtain ⟨rfl, rfl⟩ := e
      unfold atN tbD
      rw [List.map_cons, List.find?_cons_of_pos (by simp)]
      rfl
    · have e1 : dl (s :: st) x c = dl st x c := by unfold dl; rw [List.find?_cons_of_neg (by simpa using e)]
      have e2 : atN (tbD (s :: st)) (kyD (.tup [iD x, sg c])) = atN (tbD st) (kyD (.tup [iD x, sg c])) := by
        unfold atN tbD
        rw [List.map_cons, List.find?_cons_of_neg]
        simp only [decide_eq_true_eq]
        intro z
        have z1 := ky_rs (a := (s.1, s.2.1)) (b := (x, c)) z
        simp only [Prod.mk.injEq] at z1
        exact e z1
      rw [e1, e2]
      exact tb_get st x c
theorem dl_cases (st : List (Nat × Nat × Nat)) (x c : Nat) : dl st x c = [] ∨ ∃ t, dl st x c = [t] := by
  unfold dl
  cases st.find? fun s => decide (s.1 = x ∧ s.2.1 = c) with
  | none => exact .inl rfl
  | some s => exact .inr ⟨_, rfl⟩
theorem dl_mem {st : List (Nat × Nat × Nat)} {x c t : Nat} (h : t ∈ dl st x c) : (x, c, t) ∈ st := by
  unfold dl at h
  cases e : st.find? fun s => decide (s.1 = x ∧ s.2.1 = c) with
  | none => rw [e] at h; cases h
  | some s =>
    rw [e] at h
    have h : t ∈ [s.2.2] := h
    rw [List.mem_singleton] at h
    subst h
    have h1 := List.mem_of_find?_eq_some e
    have h2 := List.find?_some e
    simp only [decide_eq_true_eq] at h2
    obtain ⟨rfl, rfl⟩ := h2
    exact h1
def eD (x : Nat) : D := .tup [iD x, iD x, .bl false]
def eL (x y : Nat) : D := .tup [iD x, iD x, iD y]
abbrev pr_nextsD (td : D) (ds : List D) : Prop := ∃ st x c, td = .dN (tbD st) ∧ ds = [eD x, sg c]
abbrev po_nextsD (td : D) (ds : List D) (d : D) : Prop := ∃ st x c, td = .dN (tbD st) ∧ ds = [eD x, sg c] ∧ d = .lst ((dl st x c).map eD)
abbrev pr_nextsL (td : D) (ds : List D) : Prop := ∃ st x y c, td = .dN (tbD st) ∧ ds = [eL x y, sg c]
abbrev po_nextsL (td : D) (ds : List D) (d : D) : Prop := ∃ st x y c, td = .dN (tbD st) ∧ ds = [eL x y, sg c] ∧ d = .lst ((dl st x c).flatMap fun t => (dl st y c).map fun u => eL t u)
section
variable {P : Program} {w : World} {K : PySem.W.Frag} {mg : Str → Option Value} {base : Heap} {T : List NdefX.NTab} {f : Addr} {fd : FuncData}
theorem ok_nextsD {qual : Str} {cl : List (Str × Addr)} {c' : Addr} : NOk P w K mg base CX0 1 f (NF.of s_nextsD "nexts" qual cl c') ["here", "sign"] ["table"] (spC w T pr_nextsD po_nextsD) := by
  refine fnC sc_nextsD (fun _ _ _ us hl => match us, hl with | [_, _], _ => rfl) (fun td ds h => by obtain ⟨_, _, _, _, rfl⟩ := h; rfl) fun A outer s H E hr => ?_
  have hu := hr.units
  have nd := sc_nextsD.nd
  refine ⟨_, (pss_cons (ps_asg (pv 0) (kpg_tup (K := K) (n := 3) rfl (pgs_cons (pg_name (i := 3) nd rfl (by first | exact Or.inl rfl | exact Or.inr rfl)) (pgs_cons (pg_name (i := 4) nd rfl (by first | exact Or.inl rfl | exact Or.inr rfl)) (pgs_cons (pg_name (i := 5) nd rfl (by first | exact Or.inl rfl | exact Or.inr rfl)) pgs_nil)))))
  (pss_cons (ps_set (i := 6) nd rfl (by first | exact Or.inl rfl | exact Or.inr rfl) (pe_lst pa_nil))
  (pss_cons (ps_for PassesOwn.never rfl (kpi_seq (K := K) (pe_getN hu (pv 2) (pe_tup (pa_cons (pv 3) (pa_cons (pv 1) pa_nil))) (pe_lst pa_nil) ⟨by rfl, by rfl, by rfl, by rfl⟩)) (pg_name (i := 7) nd rfl (by first | exact Or.inl rfl | exact Or.inr rfl)) (pss_one (ps_expr (pe_bm PySem.F.plainAttrs_list PySem.F.slot_list_extend PySem.F.type_list_extend mt_extend (pv 6) (pa_cons (pe_lc (own := [("too", 8)]) (by rfl) nd (kpi_seq (K := K) (pe_getN hu (pv 2) (pe_tup (pa_cons (pv 4) (pa_cons (pv 1) pa_nil))) (pe_lst pa_nil) ⟨by rfl, by rfl, by rfl, by rfl⟩)) (blkOk_by (own := [("too", 8)]) (N := ["here", "sign", "table", "one", "other", "parted", "found", "to", "too"]) (sc := C8.fnScope s_nextsD) (by decide +kernel)) (fun _ _ _ _ _ => (pg_name (i := 8) nd rfl (by first | exact Or.inl rfl | exact Or.inr rfl))) (fun _ _ _ _ _ => pts_nil) (fun _ _ _ _ _ => (pe_tup (pa_cons (pv 7) (pa_cons (pv 8) (pa_cons (pe_or (pv 5) (pe_one (pe_cmpR (kop_NE (K := K) hu) (pv 7) (pv 8) (nomark _)))) pa_nil)))))) pa_nil)))))
  (pss_one (ps_ret (pv 6)))))), fun H B td ds hp => ?_⟩
  obtain ⟨st, x, c, rfl, rfl⟩ := hp
  show St _ _ [.dat (eD x), .dat (sg c), .dat (.dN (tbD st)), .any, .any, .any, .any, .any, .any] _
  unfold eD
  repeat walk_at "gm"
  refine st_asg ?_
  repeat walk_at "gm"
  refine st_asg ?_
  repeat walk_at "gm"
  have hl1 : (dl st x c).length ≤ 1 := by rcases dl_cases st x c with h | ⟨t, h⟩ <;> rw [h] <;> simp
  refine st_forG (fun _ t => iD t) (dl st x c) (fun q Γ => ∃ y7, Γ = [.dat (.tup [iD x, iD x, .bl false]), .dat (sg c), .dat (.dN (tbD st)), .dat (iD x), .dat (iD x), .dat (.bl false), .ob true (.lst (q.map eD)), y7, .any]) ?_
  refine it_listG ?_
  refine ev_getN rfl ?_
  repeat walk_at "gm"
  refine ⟨_, rfl, ?_⟩
  repeat walk_at "gm"
  refine ⟨_, rfl, keyOk_rs _ _, ?_⟩
  repeat walk_at "gm"
  refine ⟨_, rfl, rfl, ?_⟩
  rw [tb_get]
  refine ⟨_, rfl, idx_map iD, ⟨_, rfl⟩, fun q t r e Γ ⟨y7, hΓ⟩ => ?_, fun Γ ⟨y7, hΓ⟩ => ?_⟩
  · subst hΓ
    have hq : q = [] ∧ r = [] := by
      rw [e, List.length_append, List.length_cons] at hl1
      exact ⟨List.length_eq_zero_iff.mp (by omega), List.length_eq_zero_iff.mp (by omega)⟩
    obtain ⟨rfl, rfl⟩ := hq
    have e : dl st x c = [t] := e
    repeat walk_at "gm"
    refine ev_lcM (fun _ u => iD u) (dl st x c) eD (by repeat walk_at "gm") (by repeat walk_at "gm") rfl ?_
    refine it_listG ?_
    refine ev_getN rfl ?_
    repeat walk_at "gm"
    refine ⟨_, rfl, ?_⟩
    repeat walk_at "gm"
    refine ⟨_, rfl, keyOk_rs _ _, ?_⟩
    repeat walk_at "gm"
    refine ⟨_, rfl, rfl, ?_⟩
    rw [tb_get]
    refine ⟨_, rfl, by rw [List.length_map]; omega, idx_map iD, rfl, ?_, fun i u hu Ha => ?_⟩
    · rw [e]
      repeat walk_at "gm"
      refine mt_ext rfl (by simp) ?_
      exact ⟨_, rfl⟩
    · have hu : u = t := by
        have := List.mem_of_getElem? hu
        rw [e, List.mem_singleton] at this
        exact this
      subst hu
      repeat walk_at "gm"
      refine ⟨(fun z => nomatch z), fun _ => ?_⟩
      repeat walk_at "gm"
      rw [show (!decide ((u : Int) = (u : Int))) = false by simp]
      repeat walk_at "gm"
      exact ⟨rfl, rfl⟩
  · subst hΓ
    refine st_freeze 6 rfl ?_
    repeat walk_at "gm"
    exact ⟨_, rfl, st, x, c, rfl, rfl, rfl⟩
theorem ok_nextsL {qual : Str} {cl : List (Str × Addr)} {c' : Addr} : NOk P w K mg base CX0 1 f (NF.of s_nextsL "nexts" qual cl c') ["here", "sign"] ["table"] (spC w T pr_nextsL po_nextsL) := by
  refine fnC sc_nextsL (fun _ _ _ us hl => match us, hl with | [_, _], _ => rfl) (fun td ds h => by obtain ⟨_, _, _, _, _, rfl⟩ := h; rfl) fun A outer s H E hr => ?_
  have hu := hr.units
  have nd := sc_nextsL.nd
  refine ⟨_, (pss_cons (ps_asg (pv 0) (kpg_tup (K := K) (n := 3) rfl (pgs_cons (pg_name (i := 3) nd rfl (by first | exact Or.inl rfl | exact Or.inr rfl)) (pgs_cons (pg_name (i := 4) nd rfl (by first | exact Or.inl rfl | exact Or.inr rfl)) (pgs_cons (pg_name (i := 5) nd rfl (by first | exact Or.inl rfl | exact Or.inr rfl)) pgs_nil)))))
  (pss_cons (ps_set (i := 6) nd rfl (by first | exact Or.inl rfl | exact Or.inr rfl) (pe_lst pa_nil))
  (pss_cons (ps_for PassesOwn.never rfl (kpi_seq (K := K) (pe_getN hu (pv 2) (pe_tup (pa_cons (pv 3) (pa_cons (pv 1) pa_nil))) (pe_lst pa_nil) ⟨by rfl, by rfl, by rfl, by rfl⟩)) (pg_name (i := 7) nd rfl (by first | exact Or.inl rfl | exact Or.inr rfl)) (pss_one (ps_for PassesOwn.never rfl (kpi_seq (K := K) (pe_getN hu (pv 2) (pe_tup (pa_cons (pv 4) (pa_cons (pv 1) pa_nil))) (pe_lst pa_nil) ⟨by rfl, by rfl, by rfl, by rfl⟩)) (pg_name (i := 8) nd rfl (by first | exact Or.inl rfl | exact Or.inr rfl)) (pss_one (ps_expr (pe_bm PySem.F.plainAttrs_list PySem.F.slot_list_extend PySem.F.type_list_extend mt_extend (pv 6) (pa_cons (pe_lc (own := [("last", 9)]) (by rfl) nd (kpi_seq (K := K) (pe_getN hu (pv 2) (pe_tup (pa_cons (pv 5) (pa_cons (pv 1) pa_nil))) (pe_lst pa_nil) ⟨by rfl, by rfl, by rfl, by rfl⟩)) (blkOk_by (own := [("last", 9)]) (N := ["here", "sign", "table", "one", "two", "three", "found", "to", "too", "last"]) (sc := C8.fnScope s_nextsL) (by decide +kernel)) (fun _ _ _ _ _ => (pg_name (i := 9) nd rfl (by first | exact Or.inl rfl | exact Or.inr rfl))) (fun _ _ _ _ _ => pts_nil) (fun _ _ _ _ _ => (pe_tup (pa_cons (pv 7) (pa_cons (pv 8) (pa_cons (pv 9) pa_nil)))))) pa_nil)))))))
  (pss_one (ps_ret (pv 6)))))), fun H B td ds hp => ?_⟩
  obtain ⟨st, x, y, c, rfl, rfl⟩ := hp
  show St _ _ [.dat (eL x y), .dat (sg c), .dat (.dN (tbD st)), .any, .any, .any, .any, .any, .any, .any] _
  unfold eL
  repeat walk_at "gm"
  refine st_asg ?_
  repeat walk_at "gm"
  refine st_asg ?_
  repeat walk_at "gm"
  have hl1 : (dl st x c).length ≤ 1 := by rcases dl_cases st x c with h | ⟨t, h⟩ <;> rw [h] <;> simp
  have hl2 : (dl st y c).length ≤ 1 := by rcases dl_cases st y c with h | ⟨t, h⟩ <;> rw [h] <;> simp
  refine st_forG (fun _ t => iD t) (dl st x c) (fun q Γ => ∃ y7 y8, y8.isOb = false ∧ Γ = [.dat (.tup [iD x, iD x, iD y]), .dat (sg c), .dat (.dN (tbD st)), .dat (iD x), .dat (iD x), .dat (iD y), .ob true (.lst (q.flatMap fun t => (dl st y c).map fun u => eL t u)), y7, y8, .any]) ?_
  refine it_listG ?_
  refine ev_getN rfl ?_
  repeat walk_at "gm"
  refine ⟨_, rfl, ?_⟩
  repeat walk_at "gm"
  refine ⟨_, rfl, keyOk_rs _ _, ?_⟩
  repeat walk_at "gm"
  refine ⟨_, rfl, rfl, ?_⟩
  rw [tb_get]
  refine ⟨_, rfl, idx_map iD, ⟨_, _, rfl, rfl⟩, fun q t r e Γ ⟨y7, y8, hy8, hΓ⟩ => ?_, fun Γ ⟨y7, y8, hy8, hΓ⟩ => ?_⟩
  · subst hΓ
    have hq : q = [] ∧ r = [] := by
      rw [e, List.length_append, List.length_cons] at hl1
      exact ⟨List.length_eq_zero_iff.mp (by omega), List.length_eq_zero_iff.mp (by omega)⟩
    obtain ⟨rfl, rfl⟩ := hq
    have e : dl st x c = [t] := e
    repeat walk_at "gm"
    refine st_forG (fun _ t => iD t) (dl st x c) (fun q Γ => ∃ y8, y8.isOb = false ∧ Γ = [.dat (.tup [iD x, iD x, iD y]), .dat (sg c), .dat (.dN (tbD st)), .dat (iD x), .dat (iD x), .dat (iD y), .ob true (.lst (q.flatMap fun t => (dl st y c).map fun u => eL t u)), .dat (iD t), y8, .any]) ?_
    refine it_listG ?_
    refine ev_getN rfl ?_
    repeat walk_at "gm"
    refine ⟨_, rfl, ?_⟩
    repeat walk_at "gm"
    refine ⟨_, rfl, keyOk_rs _ _, ?_⟩
    repeat walk_at "gm"
    refine ⟨_, rfl, rfl, ?_⟩
    rw [tb_get]
    refine ⟨_, rfl, idx_map iD, ⟨_, hy8, rfl⟩, fun q t2 r e2 Γ ⟨y8, hy8, hΓ⟩ => ?_, fun Γ ⟨y8, hy8, hΓ⟩ => ?_⟩
    · subst hΓ
      have hq : q = [] ∧ t2 = t := by
        rw [e] at e2
        cases q with
        | nil => cases e2; exact ⟨rfl, rfl⟩
        | cons a q => simp at e2
      obtain ⟨rfl, rfl⟩ := hq
      repeat walk_at "gm"
      refine ev_lcM (fun _ u => iD u) (dl st y c) (fun u => eL t2 u) (by repeat walk_at "gm") (by repeat walk_at "gm") rfl ?_
      refine it_listG ?_
      refine ev_getN rfl ?_
      repeat walk_at "gm"
      refine ⟨_, rfl, ?_⟩
      repeat walk_at "gm"
      refine ⟨_, rfl, keyOk_rs _ _, ?_⟩
      repeat walk_at "gm"
      refine ⟨_, rfl, rfl, ?_⟩
      rw [tb_get]
      refine ⟨_, rfl, by rw [List.length_map]; omega, idx_map iD, rfl, ?_, fun i u hu Ha => ?_⟩
      · repeat walk_at "gm"
        refine mt_ext rfl (by rw [List.length_map]; show 0 + _ ≤ _; omega) ?_
        exact ⟨_, rfl, by rw [List.nil_append, List.flatMap_cons, List.flatMap_nil, List.nil_append, List.append_nil]; rfl⟩
      · repeat walk_at "gm"
        exact ⟨rfl, rfl⟩
    · subst hΓ
      rw [e]
      exact ⟨_, _, hy8, rfl⟩
  · subst hΓ
    refine st_freeze 6 rfl ?_
    repeat walk_at "gm"
    exact ⟨_, rfl, st, x, y, c, rfl, rfl, rfl⟩
end
end Gm
namespace Gm
open PySem PySem.Spec PyProof.Rows L2
local macro_rules | `(tactic| walk_at "gm") => `(tactic| first
  | (with_reducible refine st_seq ?_)
  | ((with_reducible show Tg _ (gName _) _ _ _); refine tg_nameG rfl ?_)
  | ((with_reducible show Tg _ (gTup _ _ _) _ _ _); refine tg_tup (by rfl) ?_)
  | (with_reducible refine tgs_cons ?_)
  | (with_reducible refine tgs_nil ?_)
  | (with_reducible refine tgin_name (by decide))
  | (with_reducible refine tgin_tup ?_)
  | (with_reducible refine tgsin_cons ?_ ?_ ?_ ?_)
  | (with_reducible exact tgsin_nil)
  | (with_reducible exact tgm_name)
  | (with_reducible refine tgm_tup ?_)
  | (with_reducible refine tgsm_cons ?_ ?_)
  | (with_reducible exact tgsm_nil)
  | (with_reducible refine ev_neg ?_)
  | ((with_reducible show ∃ i, Rz.d (D.int _) = Rz.d (D.int i) ∧ _); refine ⟨_, rfl, ?_⟩)
  | (with_reducible refine it_enumG ?_)
  | (with_reducible refine it_rngG ?_)
  | (with_reducible refine st_if ?_)
  | (with_reducible refine st_ret ?_)
  | (with_reducible refine st_retN ?_)
  | (with_reducible refine st_drop ?_)
  | (with_reducible refine st_next ?_)
  | (with_reducible refine st_cont ?_)
  | (with_reducible refine et_B ?_)
  | (with_reducible refine et_test ?_)
  | (with_reducible refine et_not ?_)
  | (with_reducible refine et_and ?_)
  | (with_reducible refine et_or ?_)
  | (with_reducible refine ev_andV ?_)
  | (with_reducible refine ev_orV ?_)
  | (with_reducible refine ev_notV ?_)
  | (with_reducible refine ev_if ?_)
  | (with_reducible refine ev_chain ?_)
  | (with_reducible refine ev_op' ?_)
  | (with_reducible refine ev_tupG ?_)
  | (with_reducible refine ev_lstG ?_)
  | (with_reducible refine ev_callG rs_nil rfl rfl ?_)
  | (with_reducible refine ev_cb ?_)
  | (with_reducible refine ev_bm ?_)
  | (with_reducible refine ev_bm0 ?_)
  | (with_reducible refine ev_m1 ?_)
  | (with_reducible refine ev_slice ?_)
  | (with_reducible refine eo_none ?_)
  | (with_reducible refine eo_some ?_)
  | (with_reducible refine ea_cons' ?_)
  | (with_reducible refine ea_nil ?_)
  | ((with_reducible show Ev _ (tVar _) _ _); refine ev_var rfl rfl ?_)
  | (with_reducible refine ev_int ?_)
  | (with_reducible refine ev_str ?_)
  | (with_reducible refine ev_bl ?_)
  | (with_reducible refine ev_non ?_)
  | ((with_reducible show Ev _ (tC (V.ty _)) _ _); refine ev_cx ?_)
  | ((with_reducible show ∃ b, Rz.d (D.bl _) = Rz.d (D.bl b) ∧ _); refine ⟨_, rfl, ?_⟩)
  | ((with_reducible show ∃ ds, unDs _ = some ds ∧ _); refine ⟨_, rfl, ?_⟩)
  | ((with_reducible show List.length _ ≤ 100000 ∧ _); refine and_ble rfl ?_)
  | ((with_reducible show Cb _ (rIsi _) _ _ _); refine cb_isT rfl rfl rfl (by decide) ?_)
  | ((with_reducible show Cb _ (fun xs H Q => ∃ x n, xs = [x] ∧ LenV _ x H n ∧ Q (.int n) H) _ _ _); refine cb_lenG rfl rfl ?_)
  | ((with_reducible show Op2 _ (orR rEq _) _ _ _ _); first | refine op_eqI rfl rfl ?_ | refine op_eqS rfl rfl ?_)
  | ((with_reducible show Op2 _ (orR rNe _) _ _ _ _); first | refine op_neI rfl rfl ?_ | refine op_neB rfl rfl ?_)
  | ((with_reducible show Op2 _ (rI0 _) _ _ _ _); first | refine op_cmpI rfl rfl ?_ | refine op_subI rfl rfl ?_)
  | ((with_reducible show Op2 _ (orR (rI0 _) _) _ _ _ _); refine op_addI rfl rfl ?_)
  | ((with_reducible show Op2 _ (fun x y H Q => y = V.non ∧ _) _ _ _ _); first | refine op_is rfl rfl ?_ | refine op_isnot rfl rfl ?_)
  | ((with_reducible show Op2 _ (fun x y H Q => ∃ (c : Nat) (z : Str), x = V.str ⟨#[c]⟩ ∧ _) _ _ _ _); refine op_inSign rfl rfl ?_)
  | ((with_reducible show Op2 _ (rIx _) _ _ _ _); refine op_ix rfl rfl rfl (fun _ z => by cases z) ?_)
  | (with_reducible refine ev_newN rfl ?_)
  | (with_reducible refine ev_newI ?_)
  | ((with_reducible show Cb _ (fun xs H Q => (∃ i, xs = [V.int i] ∧ _) ∨ _) _ _ _); refine cb_intB rfl ?_)
  | ((with_reducible show Op2 _ (rIn _ _) _ _ _ _); refine op_inL rfl rfl ?_)
  | (with_reducible refine it_listG ?_)
  | (with_reducible refine et_yes ?_)
  | ((with_reducible show ∃ ds, unD _ = some (D.lst ds) ∧ _); refine ⟨_, rfl, ?_⟩)
  | ((with_reducible show ∃ ds, unDs _ = some [D.lst ds] ∧ _); refine ⟨_, rfl, ?_⟩)
  | ((with_reducible show ∃ n, unDs _ = some [iD n] ∧ _); refine ⟨_, rfl, ?_⟩)
  | ((with_reducible show (∃ d, vw _ _ = some d ∧ tyD _ d) ∧ _); refine ⟨⟨_, rfl, rfl⟩, ?_⟩)
  | ((with_reducible show Mt _ rAppend (Rz.o _) [Rz.d _] _ _); refine mt_app rfl ?_ ?_)
  | (with_reducible refine it_enumS ?_)
  | ((with_reducible show ∃ s, unDs _ = some [D.str s] ∧ _); refine ⟨_, rfl, ?_⟩))
open NdefX LamX
abbrev q_nextsD : Str := (envOfC "double_text" (defScope s_double_text) 0 0 .none).qual ++ "nexts"
abbrev q_nextsL : Str := (envOfC "led_text" (defScope s_led_text_rounds) 0 0 .none).qual ++ "nexts"
abbrev pr_double_text (ds : List D) : Prop := ∃ (st : List (Nat × Nat × Nat)) (cs : List Nat) (x : Nat), x < 12 ∧ (∀ s ∈ st, s.2.2 < 12) ∧ (∀ c ∈ cs, isL c) ∧ ds = [.dN (tbD st), .lst (cs.map sg), iD x]
abbrev po_double_text (ds : List D) (d : D) : Prop := d = .non
abbrev K_double_text (P : Program) (w : World) (K : PySem.W.Frag) (mg : Str → Option Value) (base : Heap) (T : List NdefX.NTab) : Prop := KnR P w K mg base T "double_text" 3 [] pr_double_text po_double_text
abbrev pr_led_text_rounds (ds : List D) : Prop := ∃ (st : List (Nat × Nat × Nat)) (cs : List Nat) (x y : Nat), x < 12 ∧ y < 12 ∧ x ≠ y ∧ (∀ s ∈ st, s.2.2 < 12) ∧ (∀ c ∈ cs, isL c) ∧ ds = [.dN (tbD st), .lst (cs.map sg), iD x, iD y]
abbrev po_led_text_rounds (ds : List D) (d : D) : Prop := d = .non
abbrev K_led_text_rounds (P : Program) (w : World) (K : PySem.W.Frag) (mg : Str → Option Value) (base : Heap) (T : List NdefX.NTab) : Prop := KnR P w K mg base T "led_text_rounds" 3 [] pr_led_text_rounds po_led_text_rounds
theorem tbD_inj {a b : List (Nat × Nat × Nat)} (h : tbD a = tbD b) : a = b := by
  refine map_inj (f := fun s : Nat × Nat × Nat => (D.tup [iD s.1, sg s.2.1], D.lst [iD s.2.2])) (fun s t e => ?_) h
  obtain ⟨s1, s2, s3⟩ := s
  obtain ⟨t1, t2, t3⟩ := t
  simp only [Prod.mk.injEq, D.tup.injEq, D.lst.injEq, List.cons.injEq, and_true] at e
  obtain ⟨⟨e1, e2⟩, e3⟩ := e
  rw [iD_inj e1, sg_inj e2, iD_inj e3]
def nxD (st : List (Nat × Nat × Nat)) (a : D) (c : Nat) : List D := match a with
  | .tup [.int i, _, _] => (dl st i.toNat c).map eD
  | _ => []
def nxL (st : List (Nat × Nat × Nat)) (a : D) (c : Nat) : List D := match a with
  | .tup [.int i, _, .int j] => (dl st i.toNat c).flatMap fun t => (dl st j.toNat c).map fun u => eL t u
  | _ => []
def wkD (st : List (Nat × Nat × Nat)) (cs : List Nat) (x : Nat) : Wk := ⟨(List.range 12).map eD, nxD st, cs, eD x, .tup [iD x, iD x, .bl true]⟩
def wkL (st : List (Nat × Nat × Nat)) (cs : List Nat) (x y : Nat) : Wk := ⟨(List.range 12).flatMap fun a => (List.range 12).map fun b => eL a b, nxL st, cs, eL x y, .tup [iD x, iD y, iD y]⟩
theorem ky_eD {a b : Nat} (h : kyD (eD a) = kyD (eD b)) : a = b := by
  simp only [eD, iD, kyD, kyDs, NestedKey.tup.injEq, List.cons.injEq, NestedKey.num.injEq, Int.natCast_inj, and_true] at h
  exact h.1
theorem ky_eL {a b c d : Nat} (h : kyD (eL a b) = kyD (eL c d)) : a = c ∧ b = d := by
  simp only [eL, iD, kyD, kyDs, NestedKey.tup.injEq, List.cons.injEq, NestedKey.num.injEq, Int.natCast_inj, and_true] at h
  exact ⟨h.1, h.2.2⟩
theorem sh3 {a b c : D} (h1 : Sh 49 a) (h2 : Sh 49 b) (h3 : Sh 49 c) : Sh 50 (.tup [a, b, c]) := sh_tup fun d hd => by
  rcases List.mem_cons.mp hd with rfl | hd
  · exact h1
  · rcases List.mem_cons.mp hd with rfl | hd
    · exact h2
    · rw [List.mem_singleton] at hd
      subst hd
      exact h3
theorem wkD_ok {st : List (Nat × Nat × Nat)} {cs : List Nat} {x : Nat} (hx : x < 12) (hs : ∀ s ∈ st, s.2.2 < 12) (hc : ∀ c ∈ cs, isL c) : (wkD st cs x).Ok where
  st := List.mem_map_of_mem (List.mem_range.mpr hx)
  cl := fun a ha c hcs b hb => by
    obtain ⟨u, _, rfl⟩ := List.mem_map.mp ha
    have hb : b ∈ (dl st u c).map eD := hb
    obtain ⟨t, ht, rfl⟩ := List.mem_map.mp hb
    exact List.mem_map_of_mem (List.mem_range.mpr (hs _ (dl_mem ht)))
  inj := fun a ha b hb e => by
    obtain ⟨u, _, rfl⟩ := List.mem_map.mp ha
    obtain ⟨v, _, rfl⟩ := List.mem_map.mp hb
    rw [ky_eD e]
  key := fun a ha => by
    obtain ⟨u, _, rfl⟩ := List.mem_map.mp ha
    exact ⟨⟨_, rfl⟩, rfl, Nat.le_of_ble_eq_true rfl⟩
  off := fun a ha => by
    obtain ⟨u, _, rfl⟩ := List.mem_map.mp ha
    show eqD (eD u) (.tup [iD x, iD x, .bl true]) = false
    rw [eqD_ky _ _ rfl rfl]
    refine decide_eq_false fun z => ?_
    simp [eD, iD, kyD, kyDs] at z
  sh := fun a ha => by
    obtain ⟨u, _, rfl⟩ := List.mem_map.mp ha
    exact sh3 (sh_int _) (sh_int _) (sh_bl _)
  shG := sh3 (sh_int _) (sh_int _) (sh_bl _)
  sgs := hc
  len := by show ((List.range 12).map eD).length ≤ 200; rw [List.length_map, List.length_range]; decide
theorem wkD_pre {st : List (Nat × Nat × Nat)} {cs : List Nat} {x : Nat} {ds : List D} (h : (wkD st cs x).pre ds) : pr_nextsD (.dN (tbD st)) ds := by
  obtain ⟨a, ha, c, _, rfl⟩ := h
  obtain ⟨u, _, rfl⟩ := List.mem_map.mp ha
  exact ⟨st, u, c, rfl, rfl⟩
theorem wkD_post {st : List (Nat × Nat × Nat)} {cs : List Nat} {x : Nat} {ds : List D} {d : D} (h : po_nextsD (.dN (tbD st)) ds d) : (wkD st cs x).post ds d := fun a c e => by
  obtain ⟨st', u, c', e1, e2, rfl⟩ := h
  have e1 := tbD_inj (D.dN.inj e1)
  subst e1 e2
  simp only [List.cons.injEq, and_true] at e
  rw [← e.1, ← sg_inj e.2]
  rfl
theorem mem_pairs {n m a b : Nat} (ha : a < n) (hb : b < m) : eL a b ∈ (List.range n).flatMap fun a => (List.range m).map fun b => eL a b :=
  List.mem_flatMap.mpr ⟨a, List.mem_range.mpr ha, List.mem_map.mpr ⟨b, List.mem_range.mpr hb, rfl⟩⟩
theorem of_pairs {d : D} (h : d ∈ (List.range 12).flatMap fun a => (List.range 12).map fun b => eL a b) : ∃ a b, a < 12 ∧ b < 12 ∧ d = eL a b := by
  obtain ⟨a, ha, h⟩ := List.mem_flatMap.mp h
  obtain ⟨b, hb, rfl⟩ := List.mem_map.mp h
  exact ⟨a, b, List.mem_range.mp ha, List.mem_range.mp hb, rfl⟩
theorem wkL_ok {st : List (Nat × Nat × Nat)} {cs : List Nat} {x y : Nat} (hx : x < 12) (hy : y < 12) (hxy : x ≠ y) (hs : ∀ s ∈ st, s.2.2 < 12) (hc : ∀ c ∈ cs, isL c) : (wkL st cs x y).Ok where
  st := mem_pairs hx hy
  cl := fun a ha c hcs b hb => by
    obtain ⟨u, v, _, _, rfl⟩ := of_pairs ha
    have hb : b ∈ (dl st u c).flatMap fun t => (dl st v c).map fun z => eL t z := hb
    obtain ⟨t, ht, hb⟩ := List.mem_flatMap.mp hb
    obtain ⟨z, hz, rfl⟩ := List.mem_map.mp hb
    exact mem_pairs (hs _ (dl_mem ht)) (hs _ (dl_mem hz))
  inj := fun a ha b hb e => by
    obtain ⟨u, v, _, _, rfl⟩ := of_pairs ha
    obtain ⟨u2, v2, _, _, rfl⟩ := of_pairs hb
    rw [(ky_eL e).1, (ky_eL e).2]
  key := fun a ha => by
    obtain ⟨u, v, _, _, rfl⟩ := of_pairs ha
    exact ⟨⟨_, rfl⟩, rfl, Nat.le_of_ble_eq_true rfl⟩
  off := fun a ha => by
    obtain ⟨u, v, _, _, rfl⟩ := of_pairs ha
    show eqD (eL u v) (.tup [iD x, iD y, iD y]) = false
    rw [eqD_ky _ _ rfl rfl]
    refine decide_eq_false fun z => ?_
    simp only [eL, iD, kyD, kyDs, NestedKey.tup.injEq, List.cons.injEq, NestedKey.num.injEq, Int.natCast_inj, and_true] at z
    exact hxy (z.1.symm.trans z.2.1)
  sh := fun a ha => by
    obtain ⟨u, v, _, _, rfl⟩ := of_pairs ha
    exact sh3 (sh_int _) (sh_int _) (sh_int _)
  shG := sh3 (sh_int _) (sh_int _) (sh_int _)
  sgs := hc
  len := by
    show ((List.range 12).flatMap fun a => (List.range 12).map fun b => eL a b).length ≤ 200
    rw [List.length_flatMap]
    simp only [List.length_map, List.length_range]
    decide
theorem wkL_pre {st : List (Nat × Nat × Nat)} {cs : List Nat} {x y : Nat} {ds : List D} (h : (wkL st cs x y).pre ds) : pr_nextsL (.dN (tbD st)) ds := by
  obtain ⟨a, ha, c, _, rfl⟩ := h
  obtain ⟨u, v, _, _, rfl⟩ := of_pairs ha
  exact ⟨st, u, v, c, rfl, rfl⟩
theorem wkL_post {st : List (Nat × Nat × Nat)} {cs : List Nat} {x y : Nat} {ds : List D} {d : D} (h : po_nextsL (.dN (tbD st)) ds d) : (wkL st cs x y).post ds d := fun a c e => by
  obtain ⟨st', u, v, c', e1, e2, rfl⟩ := h
  have e1 := tbD_inj (D.dN.inj e1)
  subst e1 e2
  simp only [List.cons.injEq, and_true] at e
  rw [← e.1, ← sg_inj e.2]
  rfl
section
variable {P : Program} {w : World} {K : PySem.W.Frag} {mg : Str → Option Value} {base : Heap} {T : List NdefX.NTab} {f : Addr} {fd : FuncData}
theorem ok_double_text (F : FnP K "double_text" "double_text" s_double_text [] f fd) (tb : Tb base mg T fd q_nextsD) (h_first_text : KFt P w K mg base T) : FnOk P w K mg base CX0 3 f fd ["table", "signs", "room"] (spR w T pr_double_text po_double_text) := by
  obtain ⟨cD, pD, hcD, TB, hm, hz⟩ := tb.ex
  obtain ⟨fF, fdF, psF, Ft, hmF, hkF, hbF⟩ := h_first_text.ex
  refine fnRc F hcD sc_double_text (fun ds h => by obtain ⟨_, _, _, _, _, _, rfl⟩ := h; rfl) fun A outer s H E hr => ?_
  have nd := sc_double_text.nd
  have hnd : ndefB (defScope s_double_text) (C8.fnScope s_nextsD) ["table"] = true := by decide +kernel
  refine ⟨_, (pss_cons (ps_ndefMS (st := s_nextsD) (T := T) (nm := fun _ _ => q_nextsD) (i := 3) rfl TB rfl hm rfl hz (ndef_free (fr := ["table"]) hnd) rfl rfl rfl nd rfl (Or.inl rfl) (Or.inr rfl))
  (pss_one (ps_ret (pe_callFt (mk := (NF.of s_nextsD "nexts" ((envOfC "double_text" (defScope s_double_text) s.heap.objs.size f (.ref cD)).qual ++ "nexts") (cloFrom (envOfC "double_text" (defScope s_double_text) s.heap.objs.size f (.ref cD)).cells (C8.fnScope s_nextsD).names []))) (js := [0]) Ft (hr.mono (by decide)) (by rfl) hmF hkF hbF (fun _ _ => ok_nextsD) (fun _ => rfl) (fun ok => Caps.made ok (ndef_free (fr := ["table"]) hnd) (ndef_fr hnd) rfl) (pa_cons (pv 1) (pa_cons (pe_tup (pa_cons (pv 2) (pa_cons (pv 2) (pa_cons pe_bl pa_nil)))) (pa_cons (pe_tup (pa_cons (pv 2) (pa_cons (pv 2) (pa_cons pe_bl pa_nil)))) (pa_cons (pv 3) pa_nil)))))))), fun H B ds hp => ?_⟩
  obtain ⟨st, cs, x, hx, hs, hc, rfl⟩ := hp
  refine st_ndefM rfl (fun _ => rfl) rfl (Nat.le_of_ble_eq_true rfl) fun ga c' H1 B1 hga hca => ?_
  refine st_ret ?_
  refine ev_callFt hga hca rfl rfl rfl rfl ?_
  repeat walk_at "gm"
  exact ⟨wkD st cs x, rfl, wkD_ok hx hs hc, fun _ => wkD_pre, fun _ _ _ => wkD_post, _, rfl, rfl⟩
theorem ok_led_text_rounds (F : FnP K "led_text" "led_text" s_led_text_rounds [] f fd) (tb : Tb base mg T fd q_nextsL) (h_first_text : KFt P w K mg base T) : FnOk P w K mg base CX0 3 f fd ["table", "signs", "room", "other"] (spR w T pr_led_text_rounds po_led_text_rounds) := by
  obtain ⟨cD, pD, hcD, TB, hm, hz⟩ := tb.ex
  obtain ⟨fF, fdF, psF, Ft, hmF, hkF, hbF⟩ := h_first_text.ex
  refine fnRc F hcD sc_led_text_rounds (fun ds h => by obtain ⟨_, _, _, _, _, _, _, _, _, rfl⟩ := h; rfl) fun A outer s H E hr => ?_
  have nd := sc_led_text_rounds.nd
  have hnd : ndefB (defScope s_led_text_rounds) (C8.fnScope s_nextsL) ["table"] = true := by decide +kernel
  refine ⟨_, (pss_cons (ps_ndefMS (st := s_nextsL) (T := T) (nm := fun _ _ => q_nextsL) (i := 4) rfl TB rfl hm rfl hz (ndef_free (fr := ["table"]) hnd) rfl rfl rfl nd rfl (Or.inl rfl) (Or.inr rfl))
  (pss_one (ps_ret (pe_callFt (mk := (NF.of s_nextsL "nexts" ((envOfC "led_text" (defScope s_led_text_rounds) s.heap.objs.size f (.ref cD)).qual ++ "nexts") (cloFrom (envOfC "led_text" (defScope s_led_text_rounds) s.heap.objs.size f (.ref cD)).cells (C8.fnScope s_nextsL).names []))) (js := [0]) Ft (hr.mono (by decide)) (by rfl) hmF hkF hbF (fun _ _ => ok_nextsL) (fun _ => rfl) (fun ok => Caps.made ok (ndef_free (fr := ["table"]) hnd) (ndef_fr hnd) rfl) (pa_cons (pv 1) (pa_cons (pe_tup (pa_cons (pv 2) (pa_cons (pv 2) (pa_cons (pv 3) pa_nil)))) (pa_cons (pe_tup (pa_cons (pv 2) (pa_cons (pv 3) (pa_cons (pv 3) pa_nil)))) (pa_cons (pv 4) pa_nil)))))))), fun H B ds hp => ?_⟩
  obtain ⟨st, cs, x, y, hx, hy, hxy, hs, hc, rfl⟩ := hp
  refine st_ndefM rfl (fun _ => rfl) rfl (Nat.le_of_ble_eq_true rfl) fun ga c' H1 B1 hga hca => ?_
  refine st_ret ?_
  refine ev_callFt hga hca rfl rfl rfl rfl ?_
  repeat walk_at "gm"
  exact ⟨wkL st cs x y, rfl, wkL_ok hx hy hxy hs hc, fun _ => wkL_pre, fun _ _ _ => wkL_post, _, rfl, rfl⟩
end
end Gm
namespace Gm
open PySem PySem.Spec PyProof.Rows L2
local macro_rules | `(tactic| walk_at "gm") => `(tactic| first
  | (with_reducible refine st_seq ?_)
  | ((with_reducible show Tg _ (gName _) _ _ _); refine tg_nameG rfl ?_)
  | ((with_reducible show Tg _ (gTup _ _ _) _ _ _); refine tg_tup (by rfl) ?_)
  | (with_reducible refine tgs_cons ?_)
  | (with_reducible refine tgs_nil ?_)
  | (with_reducible refine tgin_name (by decide))
  | (with_reducible refine tgin_tup ?_)
  | (with_reducible refine tgsin_cons ?_ ?_ ?_ ?_)
  | (with_reducible exact tgsin_nil)
  | (with_reducible exact tgm_name)
  | (with_reducible refine tgm_tup ?_)
  | (with_reducible refine tgsm_cons ?_ ?_)
  | (with_reducible exact tgsm_nil)
  | (with_reducible refine ev_neg ?_)
  | ((with_reducible show ∃ i, Rz.d (D.int _) = Rz.d (D.int i) ∧ _); refine ⟨_, rfl, ?_⟩)
  | (with_reducible refine it_enumG ?_)
  | (with_reducible refine it_rngG ?_)
  | (with_reducible refine st_if ?_)
  | (with_reducible refine st_ret ?_)
  | (with_reducible refine st_retN ?_)
  | (with_reducible refine st_drop ?_)
  | (with_reducible refine st_next ?_)
  | (with_reducible refine st_cont ?_)
  | (with_reducible refine et_B ?_)
  | (with_reducible refine et_test ?_)
  | (with_reducible refine et_not ?_)
  | (with_reducible refine et_and ?_)
  | (with_reducible refine et_or ?_)
  | (with_reducible refine ev_andV ?_)
  | (with_reducible refine ev_orV ?_)
  | (with_reducible refine ev_notV ?_)
  | (with_reducible refine ev_if ?_)
  | (with_reducible refine ev_chain ?_)
  | (with_reducible refine ev_op' ?_)
  | (with_reducible refine ev_tupG ?_)
  | (with_reducible refine ev_lstG ?_)
  | (with_reducible refine ev_callG rs_nil rfl rfl ?_)
  | (with_reducible refine ev_cb ?_)
  | (with_reducible refine ev_bm ?_)
  | (with_reducible refine ev_bm0 ?_)
  | (with_reducible refine ev_m1 ?_)
  | (with_reducible refine ev_slice ?_)
  | (with_reducible refine eo_none ?_)
  | (with_reducible refine eo_some ?_)
  | (with_reducible refine ea_cons' ?_)
  | (with_reducible refine ea_nil ?_)
  | ((with_reducible show Ev _ (tVar _) _ _); refine ev_var rfl rfl ?_)
  | (with_reducible refine ev_int ?_)
  | (with_reducible refine ev_str ?_)
  | (with_reducible refine ev_bl ?_)
  | (with_reducible refine ev_non ?_)
  | ((with_reducible show Ev _ (tC (V.ty _)) _ _); refine ev_cx ?_)
  | ((with_reducible show ∃ b, Rz.d (D.bl _) = Rz.d (D.bl b) ∧ _); refine ⟨_, rfl, ?_⟩)
  | ((with_reducible show ∃ ds, unDs _ = some ds ∧ _); refine ⟨_, rfl, ?_⟩)
  | ((with_reducible show List.length _ ≤ 100000 ∧ _); refine and_ble rfl ?_)
  | ((with_reducible show Cb _ (rIsi _) _ _ _); refine cb_isT rfl rfl rfl (by decide) ?_)
  | ((with_reducible show Cb _ (fun xs H Q => ∃ x n, xs = [x] ∧ LenV _ x H n ∧ Q (.int n) H) _ _ _); refine cb_lenG rfl rfl ?_)
  | ((with_reducible show Op2 _ (orR rEq _) _ _ _ _); first | refine op_eqI rfl rfl ?_ | refine op_eqS rfl rfl ?_)
  | ((with_reducible show Op2 _ (orR rNe _) _ _ _ _); first | refine op_neI rfl rfl ?_ | refine op_neB rfl rfl ?_)
  | ((with_reducible show Op2 _ (rI0 _) _ _ _ _); first | refine op_cmpI rfl rfl ?_ | refine op_subI rfl rfl ?_)
  | ((with_reducible show Op2 _ (orR (rI0 _) _) _ _ _ _); refine op_addI rfl rfl ?_)
  | ((with_reducible show Op2 _ (fun x y H Q => y = V.non ∧ _) _ _ _ _); first | refine op_is rfl rfl ?_ | refine op_isnot rfl rfl ?_)
  | ((with_reducible show Op2 _ (fun x y H Q => ∃ (c : Nat) (z : Str), x = V.str ⟨#[c]⟩ ∧ _) _ _ _ _); refine op_inSign rfl rfl ?_)
  | ((with_reducible show Op2 _ (rIx _) _ _ _ _); refine op_ix rfl rfl rfl (fun _ z => by cases z) ?_)
  | (with_reducible refine ev_newN rfl ?_)
  | (with_reducible refine ev_newI ?_)
  | ((with_reducible show Cb _ (fun xs H Q => (∃ i, xs = [V.int i] ∧ _) ∨ _) _ _ _); refine cb_intB rfl ?_)
  | ((with_reducible show Op2 _ (rIn _ _) _ _ _ _); refine op_inL rfl rfl ?_)
  | (with_reducible refine it_listG ?_)
  | (with_reducible refine et_yes ?_)
  | ((with_reducible show ∃ ds, unD _ = some (D.lst ds) ∧ _); refine ⟨_, rfl, ?_⟩)
  | ((with_reducible show ∃ ds, unDs _ = some [D.lst ds] ∧ _); refine ⟨_, rfl, ?_⟩)
  | ((with_reducible show ∃ n, unDs _ = some [iD n] ∧ _); refine ⟨_, rfl, ?_⟩)
  | ((with_reducible show (∃ d, vw _ _ = some d ∧ tyD _ d) ∧ _); refine ⟨⟨_, rfl, rfl⟩, ?_⟩)
  | ((with_reducible show Mt _ rAppend (Rz.o _) [Rz.d _] _ _); refine mt_app rfl ?_ ?_)
  | (with_reducible refine it_enumS ?_)
  | ((with_reducible show ∃ s, unDs _ = some [D.str s] ∧ _); refine ⟨_, rfl, ?_⟩))
abbrev s_double_rounds : Stmt := topS 42
theorem sc_double_rounds : FnScope ["machine", "rooms", "table", "found", "room", "text"] ["machine"] (defScope s_double_rounds) := ⟨rfl, rfl, rfl, by decide +kernel, rfl, by decide +kernel, by decide +kernel⟩
abbrev s_led_rounds : Stmt := topS 43
theorem sc_led_rounds : FnScope ["machine", "rooms", "table", "signs", "found", "room", "other", "text"] ["machine"] (defScope s_led_rounds) := ⟨rfl, rfl, rfl, by decide +kernel, rfl, by decide +kernel, by decide +kernel⟩
section
variable {P : Program} {w : World} {K : PySem.W.Frag} {mg : Str → Option Value} {base : Heap} {T : List NdefX.NTab} {f : Addr} {fd : FuncData}
theorem ok_double_rounds (F : FnP K "double_rounds" "double_rounds" s_double_rounds [] f fd) (g : Bl mg) (c : Cn mg) (h_useful : K_useful P w K mg base T) (h_by_signs : K_by_signs P w K mg base T) (h_trimmed : K_trimmed P w K mg base T) (h_double_text : K_double_text P w K mg base T) (h_signs_of_useful : K_signs_of_useful P w K mg base T) : FnOk P w K mg base CX0 10 f fd ["machine"] (spR w T pr_double_rounds po_double_rounds) := by
  refine fnR F sc_double_rounds ?_ fun cdv A outer s H E hr => ?_
  · rintro ds h
    (repeat (obtain ⟨_, h⟩ := h))
    first
      | rfl
      | (subst h; rfl)
  have hu := hr.units
  have hu1 := hu_of hr
  have nd := sc_double_rounds.nd
  refine ⟨_, (pss_cons (ps_set (i := 1) nd rfl (by first | exact Or.inl rfl | exact Or.inr rfl) (pe_kn h_useful (hr.mono (by decide)) (by rfl) (pa_cons (pv 0) pa_nil)))
  (pss_cons (ps_set (i := 2) nd rfl (by first | exact Or.inl rfl | exact Or.inr rfl) (pe_kn h_by_signs (hr.mono (by decide)) (by rfl) (pa_cons (pe_kn h_trimmed (hr.mono (by decide)) (by rfl) (pa_cons (pv 0) pa_nil)) pa_nil)))
  (pss_cons (ps_setLc (i := 3) (own := [("room", 4)]) (by rfl) nd rfl rfl (sw_true rfl rfl rfl (by decide +kernel)) (kpi_seq (K := K) (pv 1)) (blkOk_by (own := [("room", 4)]) (N := ["machine", "rooms", "table", "found", "room", "text"]) (sc := defScope s_double_rounds) (by decide +kernel)) (fun _ _ _ _ _ => (pg_name (i := 4) nd rfl (by first | exact Or.inl rfl | exact Or.inr rfl))) (fun _ _ _ _ _ => pts_nil) (fun _ _ _ _ _ => (pe_tup (pa_cons (pv 4) (pa_cons (pe_kn h_double_text (hr.mono (by decide)) (by rfl) (pa_cons (pv 2) (pa_cons (pe_kn h_signs_of_useful (hr.mono (by decide)) (by rfl) (pa_cons (pv 0) pa_nil)) (pa_cons (pv 4) pa_nil)))) pa_nil)))))
  (pss_one (ps_ret (pe_lc (own := [("room", 4), ("text", 5)]) (by rfl) nd (kpi_seq (K := K) (pv 3)) (blkOk_by (own := [("room", 4), ("text", 5)]) (N := ["machine", "rooms", "table", "found", "room", "text"]) (sc := defScope s_double_rounds) (by decide +kernel)) (fun _ _ _ _ _ => (kpg_tup (K := K) (n := 2) rfl (pgs_cons (pg_name (i := 4) nd rfl (by first | exact Or.inl rfl | exact Or.inr rfl)) (pgs_cons (pg_name (i := 5) nd rfl (by first | exact Or.inl rfl | exact Or.inr rfl)) pgs_nil)))) (fun _ _ _ _ _ => (pts_one (pt_cmpR op_notN (pv 5) pe_non (nomark _)))) (fun _ _ _ _ _ => (pe_tup (pa_cons (pv 4) (pa_cons (pv 5) pa_nil)))))))))), fun H B ds hp => ?_⟩
  obtain ⟨m, hm, hd, rfl⟩ := hp
  have h12 := hm.n2
  have hul := m.use_len hm
  repeat walk_at "gm"
  refine st_asg ?_
  repeat walk_at "gm"
  refine ⟨⟨m, hm, rfl⟩, fun d e => ?_⟩
  rw [e m rfl]
  clear e
  repeat walk_at "gm"
  refine st_asg ?_
  repeat walk_at "gm"
  refine ⟨⟨m, hm, rfl⟩, fun d e => ?_⟩
  rw [e m rfl]
  clear e
  repeat walk_at "gm"
  refine ⟨⟨m.trim, hm.trim, hd.trim, rfl⟩, fun d e => ?_⟩
  rw [e m.trim rfl]
  clear e
  repeat walk_at "gm"
  refine st_asgF ?_
  refine ev_lcM (fun _ x => iD x) m.use (fun x => .tup [iD x, .non]) (by repeat walk_at "gm") (by repeat walk_at "gm") rfl ?_
  refine it_listG ?_
  repeat walk_at "gm"
  refine ⟨by rw [List.length_map]; omega, idx_map iD, rfl, ?_, fun i x hx Ha => ?_⟩
  · repeat walk_at "gm"
    refine ev_lcP (fun _ x => .tup [iD x, .non]) m.use (fun _ => false) (fun _ => .non) (by repeat walk_at "gm") (by repeat walk_at "gm") rfl ?_
    refine it_listG ?_
    repeat walk_at "gm"
    refine ⟨by rw [List.length_map]; omega, idx_map _, rfl, ⟨_, rfl, by rw [show m.use.filter (fun _ => false) = [] from List.filter_eq_nil_iff.mpr fun _ _ h => nomatch h]; rfl⟩, fun i x hx Ha => ?_⟩
    repeat walk_at "gm"
    exact ⟨rfl, (fun z => nomatch z), fun _ => rfl⟩
  · have hxu := List.mem_of_getElem? hx
    repeat walk_at "gm"
    refine ⟨⟨m, hm, rfl⟩, fun d e => ?_⟩
    rw [e m rfl]
    clear e
    repeat walk_at "gm"
    refine ⟨⟨m.trim.st, m.sig, x, Nat.lt_of_lt_of_le (m.use_lt hxu) h12, fun s hs => Nat.lt_of_lt_of_le (hm.trim.stN s hs).2.2 h12, fun c hc => Mach.sig_L hc, rfl⟩, fun d e => ?_⟩
    subst e
    repeat walk_at "gm"
    exact ⟨rfl, rfl⟩
theorem ok_led_rounds (F : FnP K "led_rounds" "led_rounds" s_led_rounds [] f fd) (g : Bl mg) (c : Cn mg) (h_useful : K_useful P w K mg base T) (h_by_signs : K_by_signs P w K mg base T) (h_trimmed : K_trimmed P w K mg base T) (h_led_text_rounds : K_led_text_rounds P w K mg base T) (h_signs_of_useful : K_signs_of_useful P w K mg base T) : FnOk P w K mg base CX0 10 f fd ["machine"] (spR w T pr_led_rounds po_led_rounds) := by
  refine fnR F sc_led_rounds ?_ fun cdv A outer s H E hr => ?_
  · rintro ds h
    (repeat (obtain ⟨_, h⟩ := h))
    first
      | rfl
      | (subst h; rfl)
  have hu := hr.units
  have hu1 := hu_of hr
  have nd := sc_led_rounds.nd
  refine ⟨_, (pss_cons (ps_set (i := 1) nd rfl (by first | exact Or.inl rfl | exact Or.inr rfl) (pe_kn h_useful (hr.mono (by decide)) (by rfl) (pa_cons (pv 0) pa_nil)))
  (pss_cons (ps_set (i := 2) nd rfl (by first | exact Or.inl rfl | exact Or.inr rfl) (pe_kn h_by_signs (hr.mono (by decide)) (by rfl) (pa_cons (pe_kn h_trimmed (hr.mono (by decide)) (by rfl) (pa_cons (pv 0) pa_nil)) pa_nil)))
  (pss_cons (ps_set (i := 3) nd rfl (by first | exact Or.inl rfl | exact Or.inr rfl) (pe_kn h_signs_of_useful (hr.mono (by decide)) (by rfl) (pa_cons (pv 0) pa_nil)))
  (pss_cons (ps_set (i := 4) nd rfl (by first | exact Or.inl rfl | exact Or.inr rfl) (pe_lst pa_nil))
  (pss_cons (ps_for PassesOwn.never rfl (kpi_seq (K := K) (pv 1)) (pg_name (i := 5) nd rfl (by first | exact Or.inl rfl | exact Or.inr rfl)) (pss_one (ps_for PassesOwn.never rfl (kpi_seq (K := K) (pv 1)) (pg_name (i := 6) nd rfl (by first | exact Or.inl rfl | exact Or.inr rfl)) (pss_cons (ps_set (i := 7) nd rfl (by first | exact Or.inl rfl | exact Or.inr rfl) pe_non)
  (pss_cons (ps_if (pt_cmpR (kop_NE (K := K) hu) (pv 5) (pv 6) (nomark _)) (pss_one (ps_set (i := 7) nd rfl (by first | exact Or.inl rfl | exact Or.inr rfl) (pe_kn h_led_text_rounds (hr.mono (by decide)) (by rfl) (pa_cons (pv 2) (pa_cons (pv 3) (pa_cons (pv 5) (pa_cons (pv 6) pa_nil))))))) pss_nil)
  (pss_one (ps_if (pt_cmpR op_notN (pv 7) pe_non (nomark _)) (pss_one (ps_expr (pe_bm PySem.F.plainAttrs_list PySem.F.slot_list_append PySem.F.type_list_append mt_append (pv 4) (pa_cons (pe_tup (pa_cons (pv 5) (pa_cons (pv 6) (pa_cons (pv 7) pa_nil)))) pa_nil)))) pss_nil)))))))
  (pss_one (ps_ret (pv 4)))))))), fun H B ds hp => ?_⟩
  obtain ⟨m, hm, hd, rfl⟩ := hp
  have h12 := hm.n2
  have hul := m.use_len hm
  repeat walk_at "gm"
  refine st_asg ?_
  repeat walk_at "gm"
  refine ⟨⟨m, hm, rfl⟩, fun d e => ?_⟩
  rw [e m rfl]
  clear e
  repeat walk_at "gm"
  refine st_asg ?_
  repeat walk_at "gm"
  refine ⟨⟨m, hm, rfl⟩, fun d e => ?_⟩
  rw [e m rfl]
  clear e
  repeat walk_at "gm"
  refine ⟨⟨m.trim, hm.trim, hd.trim, rfl⟩, fun d e => ?_⟩
  rw [e m.trim rfl]
  clear e
  repeat walk_at "gm"
  refine st_asg ?_
  repeat walk_at "gm"
  refine ⟨⟨m, hm, rfl⟩, fun d e => ?_⟩
  rw [e m rfl]
  clear e
  repeat walk_at "gm"
  refine st_asg ?_
  repeat walk_at "gm"
  refine st_forG (fun _ x => iD x) m.use (fun q Γ => ∃ x5 x6 x7, Γ = [.dat m.d, .dat (iLs m.use), .dat (.dN (tbD m.trim.st)), .dat m.sigD, .ob true (.lst []), x5, x6, x7]) ?_
  refine it_listG ?_
  repeat walk_at "gm"
  refine ⟨idx_map iD, ⟨_, _, _, rfl⟩, fun q x r e Γ ⟨x5, x6, x7, hΓ⟩ => ?_, fun Γ ⟨x5, x6, x7, hΓ⟩ => ?_⟩
  · subst hΓ
    have hx : x ∈ m.use := by rw [e]; simp
    repeat walk_at "gm"
    refine st_forG (fun _ x => iD x) m.use (fun q Γ => ∃ x6 x7, Γ = [.dat m.d, .dat (iLs m.use), .dat (.dN (tbD m.trim.st)), .dat m.sigD, .ob true (.lst []), .dat (iD x), x6, x7]) ?_
    refine it_listG ?_
    repeat walk_at "gm"
    refine ⟨idx_map iD, ⟨_, _, rfl⟩, fun q y r e2 Γ ⟨x6, x7, hΓ⟩ => ?_, fun Γ ⟨x6, x7, hΓ⟩ => ?_⟩
    · subst hΓ
      have hy : y ∈ m.use := by rw [e2]; simp
      repeat walk_at "gm"
      refine st_asg ?_
      repeat walk_at "gm"
      refine tk_b (fun hb => ?_) fun hb => ?_
      · have hxy : x ≠ y := fun z => by subst z; simp at hb
        repeat walk_at "gm"
        refine st_asg ?_
        repeat walk_at "gm"
        refine ⟨⟨m.trim.st, m.sig, x, y, Nat.lt_of_lt_of_le (m.use_lt hx) h12, Nat.lt_of_lt_of_le (m.use_lt hy) h12, hxy, fun s hs => Nat.lt_of_lt_of_le (hm.trim.stN s hs).2.2 h12, fun c hc => Mach.sig_L hc, rfl⟩, fun d e => ?_⟩
        subst e
        repeat walk_at "gm"
        refine tk_f rfl ?_
        repeat walk_at "gm"
        exact ⟨_, _, rfl⟩
      · repeat walk_at "gm"
        refine tk_f rfl ?_
        repeat walk_at "gm"
        exact ⟨_, _, rfl⟩
    · subst hΓ
      exact ⟨_, _, _, rfl⟩
  · subst hΓ
    refine st_freeze 4 rfl ?_
    repeat walk_at "gm"
    exact ⟨_, rfl, rfl⟩
end
end Gm
namespace Gm
open PySem PySem.Spec PyProof.Rows L2
local macro_rules | `(tactic| walk_at "gm") => `(tactic| first
  | (with_reducible refine st_seq ?_)
  | ((with_reducible show Tg _ (gName _) _ _ _); refine tg_nameG rfl ?_)
  | ((with_reducible show Tg _ (gTup _ _ _) _ _ _); refine tg_tup (by rfl) ?_)
  | (with_reducible refine tgs_cons ?_)
  | (with_reducible refine tgs_nil ?_)
  | (with_reducible refine tgin_name (by decide))
  | (with_reducible refine tgin_tup ?_)
  | (with_reducible refine tgsin_cons ?_ ?_ ?_ ?_)
  | (with_reducible exact tgsin_nil)
  | (with_reducible exact tgm_name)
  | (with_reducible refine tgm_tup ?_)
  | (with_reducible refine tgsm_cons ?_ ?_)
  | (with_reducible exact tgsm_nil)
  | (with_reducible refine ev_neg ?_)
  | ((with_reducible show ∃ i, Rz.d (D.int _) = Rz.d (D.int i) ∧ _); refine ⟨_, rfl, ?_⟩)
  | (with_reducible refine it_enumG ?_)
  | (with_reducible refine it_rngG ?_)
  | (with_reducible refine st_if ?_)
  | (with_reducible refine st_ret ?_)
  | (with_reducible refine st_retN ?_)
  | (with_reducible refine st_drop ?_)
  | (with_reducible refine st_next ?_)
  | (with_reducible refine st_cont ?_)
  | (with_reducible refine et_B ?_)
  | (with_reducible refine et_test ?_)
  | (with_reducible refine et_not ?_)
  | (with_reducible refine et_and ?_)
  | (with_reducible refine et_or ?_)
  | (with_reducible refine ev_andV ?_)
  | (with_reducible refine ev_orV ?_)
  | (with_reducible refine ev_notV ?_)
  | (with_reducible refine ev_if ?_)
  | (with_reducible refine ev_chain ?_)
  | (with_reducible refine ev_op' ?_)
  | (with_reducible refine ev_tupG ?_)
  | (with_reducible refine ev_lstG ?_)
  | (with_reducible refine ev_callG rs_nil rfl rfl ?_)
  | (with_reducible refine ev_cb ?_)
  | (with_reducible refine ev_bm ?_)
  | (with_reducible refine ev_bm0 ?_)
  | (with_reducible refine ev_m1 ?_)
  | (with_reducible refine ev_slice ?_)
  | (with_reducible refine eo_none ?_)
  | (with_reducible refine eo_some ?_)
  | (with_reducible refine ea_cons' ?_)
  | (with_reducible refine ea_nil ?_)
  | ((with_reducible show Ev _ (tVar _) _ _); refine ev_var rfl rfl ?_)
  | (with_reducible refine ev_int ?_)
  | (with_reducible refine ev_str ?_)
  | (with_reducible refine ev_bl ?_)
  | (with_reducible refine ev_non ?_)
  | ((with_reducible show Ev _ (tC (V.ty _)) _ _); refine ev_cx ?_)
  | ((with_reducible show ∃ b, Rz.d (D.bl _) = Rz.d (D.bl b) ∧ _); refine ⟨_, rfl, ?_⟩)
  | ((with_reducible show ∃ ds, unDs _ = some ds ∧ _); refine ⟨_, rfl, ?_⟩)
  | ((with_reducible show List.length _ ≤ 100000 ∧ _); refine and_ble rfl ?_)
  | ((with_reducible show Cb _ (rIsi _) _ _ _); refine cb_isT rfl rfl rfl (by decide) ?_)
  | ((with_reducible show Cb _ (fun xs H Q => ∃ x n, xs = [x] ∧ LenV _ x H n ∧ Q (.int n) H) _ _ _); refine cb_lenG rfl rfl ?_)
  | ((with_reducible show Op2 _ (orR rEq _) _ _ _ _); first | refine op_eqI rfl rfl ?_ | refine op_eqS rfl rfl ?_)
  | ((with_reducible show Op2 _ (orR rNe _) _ _ _ _); first | refine op_neI rfl rfl ?_ | refine op_neB rfl rfl ?_)
  | ((with_reducible show Op2 _ (rI0 _) _ _ _ _); first | refine op_cmpI rfl rfl ?_ | refine op_subI rfl rfl ?_)
  | ((with_reducible show Op2 _ (orR (rI0 _) _) _ _ _ _); refine op_addI rfl rfl ?_)
  | ((with_reducible show Op2 _ (fun x y H Q => y = V.non ∧ _) _ _ _ _); first | refine op_is rfl rfl ?_ | refine op_isnot rfl rfl ?_)
  | ((with_reducible show Op2 _ (fun x y H Q => ∃ (c : Nat) (z : Str), x = V.str ⟨#[c]⟩ ∧ _) _ _ _ _); refine op_inSign rfl rfl ?_)
  | ((with_reducible show Op2 _ (rIx _) _ _ _ _); refine op_ix rfl rfl rfl (fun _ z => by cases z) ?_)
  | (with_reducible refine ev_newN rfl ?_)
  | (with_reducible refine ev_newI ?_)
  | ((with_reducible show Cb _ (fun xs H Q => (∃ i, xs = [V.int i] ∧ _) ∨ _) _ _ _); refine cb_intB rfl ?_)
  | ((with_reducible show Op2 _ (rIn _ _) _ _ _ _); refine op_inL rfl rfl ?_)
  | (with_reducible refine it_listG ?_)
  | (with_reducible refine et_yes ?_)
  | ((with_reducible show ∃ ds, unD _ = some (D.lst ds) ∧ _); refine ⟨_, rfl, ?_⟩)
  | ((with_reducible show ∃ ds, unDs _ = some [D.lst ds] ∧ _); refine ⟨_, rfl, ?_⟩)
  | ((with_reducible show ∃ n, unDs _ = some [iD n] ∧ _); refine ⟨_, rfl, ?_⟩)
  | ((with_reducible show (∃ d, vw _ _ = some d ∧ tyD _ d) ∧ _); refine ⟨⟨_, rfl, rfl⟩, ?_⟩)
  | ((with_reducible show Mt _ rAppend (Rz.o _) [Rz.d _] _ _); refine mt_app rfl ?_ ?_)
  | (with_reducible refine it_enumS ?_)
  | ((with_reducible show ∃ s, unDs _ = some [D.str s] ∧ _); refine ⟨_, rfl, ?_⟩))
abbrev s__law_hand : Stmt := topS 71
theorem sc__law_hand : FnScope ["_law_script", "_law_k", "_law_cell", "_law_seed"] ["_law_script", "_law_k"] (defScope s__law_hand) := ⟨rfl, rfl, rfl, by decide +kernel, rfl, by decide +kernel, by decide +kernel⟩
abbrev s_law : Stmt := topS 84
theorem sc_law : FnScope ["_law_script", "_law_k", "_law_hand_here"] ["_law_script"] (defScope s_law) := ⟨rfl, rfl, rfl, by decide +kernel, rfl, by decide +kernel, by decide +kernel⟩
theorem sq_keep {K : PySem.W.Frag} {H H' : Hp} {a : Addr} {xs : List V} (k : ∀ o, H a = some o → NT o → H' a = some o) (h : SqL K H a xs) : SqL K H' a xs := by
  rcases h with (h | ⟨o, h⟩) | h
  · exact .inl (.inl (k _ h (fun _ z => nomatch z)))
  · exact .inl (.inr ⟨o, k _ h (fun _ z => nomatch z)⟩)
  · exact .inr h
section
variable {Z : Zn} {Γ : List Kd} {k : Rz → List Kd → Prop} {ta tb te : TE} {K : PySem.W.Frag} {a : Addr} {ns : List Int}
theorem sq_at {σ : L2.St} {H B : Hp} {xs : List V} (I : EnvOk Z Γ σ H B) (hM : Z.M = []) (hS : SqL K Z.H a xs) : SqL K H a xs := sq_keep (fun o e n => I.keepH a o e (by rw [hM]; exact fun z => nomatch z) n) hS
theorem cb_lenR (hM : Z.M = []) (hS : SqL K Z.H a (ns.map V.int)) (hk : k (.d (.int (ns.length : Int))) Γ) : Cb Z (fun xs H Q => ∃ x n, xs = [x] ∧ LenV K x H n ∧ Q (.int n) H) [.x (.ref a)] Γ k := fun σ H B vs I x Q q => by
  obtain ⟨v, rfl, y⟩ := x.one
  have e : v = .ref a := y Γ H
  subst e
  exact ⟨_, ns.length, rfl, .inl ⟨_, sq_at I hM hS, by rw [List.length_map]⟩, q (.d (.int _)) Γ _ H B I (Sb.refl B) (.int _) hk⟩
theorem ev_sliceR {tl th : TO} (hM : Z.M = []) (hS : SqL K Z.H a (ns.map V.int)) (h : Ev Z ta Γ fun r Γ1 => r = .x (.ref a) ∧ EvO Z tl Γ1 fun lo Γ2 => EvO Z th Γ2 fun hi Γ3 => k (.n (.lst (cutD (ns.map D.int) lo hi))) Γ3) : Ev Z (tSl (rSlL K) ta tl th) Γ k := fun σ H B I Q q =>
  h σ H B I _ fun r Γ1 v H1 B1 I1 s1 x1 ⟨e, h1⟩ => by
    subst e
    have e : v = .ref a := x1
    subst e
    refine h1 σ H1 B1 I1 _ fun lo Γ2 H2 B2 I2 s2 h2 => h2 σ H2 B2 I2 _ fun hi Γ3 H3 B3 I3 s3 kk => ?_
    exact ⟨a, _, rfl, sq_at I3 hM hS, fun b hb => q (.n (.lst (cutD (ns.map D.int) lo hi))) Γ3 _ _ B3 (I3.free hb) ((s1.trans s2).trans s3) (RzOk.new I3 hb ⟨_, upd_same, rs_cut (Rs.ofInts ns) lo hi⟩) kk⟩
theorem cb_min2 {i j : Int} (hk : k (.d (.int (if j < i then j else i))) Γ) : Cb Z (fun xs H Q => ∃ i j, xs = [V.int i, V.int j] ∧ Q (V.int (if j < i then j else i)) H) [.d (.int i), .d (.int j)] Γ k := fun σ H B vs I x Q q => by
  obtain ⟨v1, v2, rfl, y1, y2⟩ := x.two
  cases y1 Γ H
  cases y2 Γ H
  exact ⟨i, j, rfl, q (.d (.int _)) Γ _ H B I (Sb.refl B) (.int _) hk⟩
theorem cb_max2 {i j : Int} (hk : k (.d (.int (if j > i then j else i))) Γ) : Cb Z (fun xs H Q => ∃ i j, xs = [V.int i, V.int j] ∧ Q (V.int (if j > i then j else i)) H) [.d (.int i), .d (.int j)] Γ k := fun σ H B vs I x Q q => by
  obtain ⟨v1, v2, rfl, y1, y2⟩ := x.two
  cases y1 Γ H
  cases y2 Γ H
  exact ⟨i, j, rfl, q (.d (.int _)) Γ _ H B I (Sb.refl B) (.int _) hk⟩
end
theorem St.own {w : World} {T : List NdefX.NTab} {H B : Hp} {N : List Str} {vs : List V} {ks : List Kd} {t : TS} {Q : VK} {R0 : D → Prop} (I : EnvOk ⟨w, H, B, [], T⟩ ks (L2.start N vs) H B) (h : St ⟨w, H, B, [], T⟩ t ks { nx := fun _ => False, rt := fun r _ => ∃ d, r = .n d ∧ R0 d })
    (q : ∀ p d H' B', Grow T H B H' B' → Ob w B' H' p d → B' p = none → H p = none → R0 d → Q (.ref p) H') : t { nx := fun _ H' => Q .non H', rt := Q } (L2.start N vs) H := by
  refine h _ H B I _ ⟨?_, ?_, ?_, ?_⟩
  · intro σ H' B' Γ I _ hq
    exact hq.elim
  · rintro σ H' B' Γ v r I _ hr ⟨d, rfl, hq⟩
    obtain ⟨p, rfl, y, b, c, _⟩ := hr
    exact q p d H' B' I.toGrow y b c hq
  · intro σ H' B' Γ I _ hq
    exact hq.elim
  · intro σ H' B' Γ I _ hq
    exact hq.elim
theorem St.tru {w : World} {T : List NdefX.NTab} {H B : Hp} {N : List Str} {vs : List V} {ks : List Kd} {t : TS} {Q : VK} (I : EnvOk ⟨w, H, B, [], T⟩ ks (L2.start N vs) H B) (h : St ⟨w, H, B, [], T⟩ t ks { nx := fun _ => False, rt := fun r _ => r = .d (.bl true) })
    (q : ∀ H', Q (.bl true) H') : t { nx := fun _ H' => Q .non H', rt := Q } (L2.start N vs) H := by
  refine h _ H B I _ ⟨?_, ?_, ?_, ?_⟩
  · intro σ H' B' Γ I _ hq
    exact hq.elim
  · rintro σ H' B' Γ v r I _ hr rfl
    cases hr
    exact q H'
  · intro σ H' B' Γ I _ hq
    exact hq.elim
  · intro σ H' B' Γ I _ hq
    exact hq.elim
/-- the script, a number -/
def spH (w : World) (K : PySem.W.Frag) (T : List NdefX.NTab) : Sp := fun vs H Q _ => ∃ (B : Hp) (a : Addr) (ns : List Int) (i : Nat), vs = [.ref a, .int (i : Int)] ∧ SqL K H a (ns.map V.int) ∧ ns.length ≤ 1000 ∧ i < 1000 ∧ (∀ i ∈ ns, i.natAbs.log2 < 10000000) ∧ Sb B H ∧ (∀ a o, B a = some o → NT o) ∧ NdefX.TabsN T H ∧
  ∀ p d H' B', Grow T H B H' B' → Ob w B' H' p d → B' p = none → H p = none → HandOk d → Q (.ref p) H'
abbrev K__law_handS (P : Program) (w : World) (K : PySem.W.Frag) (mg : Str → Option Value) (base : Heap) (T : List NdefX.NTab) : Prop := Kn P w K mg base "_law_hand" 1 [] (spH w K T)
theorem ev_callH {Z : Zn} {Γ : List Kd} {k : Rz → List Kd → Prop} {ta : TA} {w : World} {K : PySem.W.Frag} {T : List NdefX.NTab} {a : Addr} {ns : List Int} {E : XK} (hM : Z.M = []) (hw : Z.w = w) (hT : Z.T = T) (hS : SqL K Z.H a (ns.map V.int)) (hl : ns.length ≤ 1000) (hb : ∀ i ∈ ns, i.natAbs.log2 < 10000000)
    (h : EvA Z ta Γ fun rs Γ1 => ∃ i : Nat, rs = [.x (.ref a), .d (iD i)] ∧ i < 1000 ∧ ∀ d, HandOk d → k (.n d) Γ1) : Ev Z (tCall (spH w K T) [] E ta) Γ k := fun σ H B I Q q =>
  h σ H B I _ fun rs Γ1 vs H1 B1 I1 s1 x1 ⟨i, e, hi, kk⟩ => by
    subst e hw hT
    obtain ⟨v1, v2, rfl, y1, y2⟩ := x1.two
    have e1 : v1 = .ref a := y1 Γ1 H1
    subst e1
    cases y2 Γ1 H1
    refine ⟨B1, a, ns, i, rfl, sq_at I1 hM hS, hl, hi, hb, I1.sub, I1.nt, I1.tabs, fun p d H' B' g o hb hh hq => ?_⟩
    exact q (.n d) Γ1 _ H' B' (I1.grow g) (s1.trans g.base) ⟨p, rfl, o, hb, (I1.none_of hh).2, fun i f d' e => I1.notSlot hh i f d' e⟩ (kk d hq)
def spLaw (w : World) (K : PySem.W.Frag) (T : List NdefX.NTab) : Sp := fun vs H Q _ => ∃ (a : Addr) (ns : List Int), vs = [.ref a] ∧ SqL K H a (ns.map V.int) ∧ ns.length ≤ 1000 ∧ (∀ i ∈ ns, i.natAbs.log2 < 10000000) ∧ NdefX.TabsN T H ∧ ∀ H', Q (.bl true) H'
section
variable {P : Program} {w : World} {K : PySem.W.Frag} {mg : Str → Option Value} {base : Heap} {T : List NdefX.NTab} {f : Addr} {fd : FuncData}
theorem ok__law_handS (F : FnP K "_law_hand" "_law_hand" s__law_hand [] f fd) (g : Bl mg) (c : Cn mg) : FnOk P w K mg base CX0 1 f fd ["_law_script", "_law_k"] (spH w K T) := by
  refine F.ok sc__law_hand (fun vs H Q E h => by obtain ⟨_, _, _, _, rfl, _⟩ := h; rfl) fun cdv A outer s H vs Q E hr h => ?_
  obtain ⟨B, a, ns, k, rfl, hS, hn, hk, hlog, h1, h2, h3, q⟩ := h
  have hu := hr.units
  have nd := sc__law_hand.nd
  refine ⟨_, PSs.nox (pss_cons (ps_set (i := 2) nd rfl (by first | exact Or.inl rfl | exact Or.inr rfl) (pe_ix (kix_seq (K := K)) (pe_op op_ADD (pe_slice (ksl_list (K := K)) (pv 0) (po_some (pv 1)) (po_some (pe_op op_ADD (pv 1) pe_int))) (pe_lst (pa_cons pe_int pa_nil))) pe_int (fun _ _ => rfl)))
  (pss_cons (ps_set (i := 3) nd rfl (by first | exact Or.inl rfl | exact Or.inr rfl) (pe_op op_mod (pe_op op_mulX (pe_op op_ADD (pe_op op_ADD (pe_op op_mod (pv 2) pe_int) (pe_op op_mulX pe_int (pv 1))) pe_int) pe_int) pe_int))
  (pss_one (ps_ret (pe_lst (pa_cons (pe_op op_mulX (pe_callTy call_int1 (by rfl) g.int boot_int (pa_cons (pe_cmpR op_ge (pv 2) (pe_op op_pow pe_int pe_int) (nomark _)) pa_nil)) (pv 2)) (pa_cons (pv 3) pa_nil))))))), ?_⟩
  refine St.own (w := w) (T := T) (R0 := HandOk) (env_startK (N := ["_law_script", "_law_k", "_law_cell", "_law_seed"]) (ks := [.raw (.ref a), .dat (iD k)]) h1 h2 h3 rfl fun i kd hk => ?_) ?_ q
  · match i, hk with
    | 0, hk => cases hk; exact ⟨_, rfl, .inr rfl⟩
    | 1, hk => cases hk; exact ⟨_, rfl, .inl ⟨_, rfl, .int _⟩⟩
    | n + 2, hk => cases hk
  show St _ _ [.raw (.ref a), .dat (iD k), .any, .any] _
  refine st_seq ?_
  refine st_asg ?_
  refine ev_op' ?_
  refine ev_op' ?_
  refine ev_sliceR rfl hS ?_
  repeat walk_at "gm"
  refine ⟨rfl, ?_⟩
  repeat walk_at "gm"
  refine ⟨_, rfl, ?_⟩
  repeat walk_at "gm"
  refine op_catL rfl rfl ?_ ?_
  · have : (cutD (ns.map D.int) (some (k : Int)) (some ((k : Int) + 1))).length ≤ ns.length := by
      unfold cutD
      rw [List.length_take, List.length_drop, List.length_map]
      omega
    simp only [List.length_cons, List.length_nil]
    omega
  repeat walk_at "gm"
  obtain ⟨x, hx, hx2⟩ := cut_head ns (some (k : Int)) (some ((k : Int) + 1))
  have xlog : x.natAbs.log2 < 10000000 := hx2.elim (fun h => by subst h; decide) (hlog x)
  refine op_ix rfl rfl hx (fun _ z => by cases z) ?_
  repeat walk_at "gm"
  have m1 := Int.emod_nonneg x (show (2147483647 : Int) ≠ 0 by decide)
  have m2 := Int.emod_lt_of_pos x (show (0 : Int) < 2147483647 by decide)
  refine st_asg ?_
  repeat walk_at "gm"
  refine op_I rfl rfl (by decide) (fun B => .int _) ?_
  repeat walk_at "gm"
  refine op_I rfl rfl ?_ (fun B => .int _) ?_
  · have := log_lt (i := (k : Int)) (by omega) (by omega)
    have h2 : (7919 : Int).natAbs.log2 < 60 := log_lt (by decide) (by decide)
    show _ + _ < 100000000
    omega
  repeat walk_at "gm"
  refine op_I rfl rfl ?_ (fun B => .int _) ?_
  · have := log_lt (i := x % 2147483647 + 7919 * (k : Int) + 1) (by omega) (by omega)
    have h2 : (48271 : Int).natAbs.log2 < 60 := log_lt (by decide) (by decide)
    show _ + _ < 100000000
    omega
  repeat walk_at "gm"
  refine op_I rfl rfl (by decide) (fun B => .int _) ?_
  walk_at "gm"
  have m3 := Int.emod_nonneg ((x % 2147483647 + 7919 * (k : Int) + 1) * 48271) (show (2147483629 : Int) ≠ 0 by decide)
  have m4 := Int.emod_lt_of_pos ((x % 2147483647 + 7919 * (k : Int) + 1) * 48271) (show (0 : Int) < 2147483629 by decide)
  refine st_retO ?_
  repeat walk_at "gm"
  refine op_I rfl rfl ⟨by decide, by decide, by decide⟩ (fun B => .int _) ?_
  repeat walk_at "gm"
  refine op_I rfl rfl ?_ (fun B => .int _) ?_
  · show _ + _ < 100000000
    have h3 : (if decide ((10 : Int) ^ (18 : Int).toNat ≤ x) = true then (1 : Int) else 0).natAbs.log2 < 60 := by
      split
      · exact log_lt (by decide) (by decide)
      · exact log_lt (by decide) (by decide)
    omega
  repeat walk_at "gm"
  refine ⟨_, rfl, _, _, ?_, m3, by omega, rfl⟩
  by_cases h : (10 : Int) ^ (18 : Int).toNat ≤ x
  · rw [decide_eq_true h, if_pos rfl]
    have : (0 : Int) ≤ 10 ^ (18 : Int).toNat := by decide
    omega
  · rw [decide_eq_false h, if_neg (by decide)]
    omega
theorem ok_law (F : FnP K "law" "law" s_law [] f fd) (g : Bl mg) (c : Cn mg) (h__law_hand : K__law_handS P w K mg base T) (h__law_machine : K__law_machine P w K mg base T) (h__law_right : K__law_right P w K mg base T) : FnOk P w K mg base CX0 14 f fd ["_law_script"] (spLaw w K T) := by
  refine F.ok sc_law (fun vs H Q E h => by obtain ⟨_, _, rfl, _⟩ := h; rfl) fun cdv A outer s H vs Q E hr h => ?_
  obtain ⟨a, ns, rfl, hS, hn, hlog, h3, q⟩ := h
  have hu := hr.units
  have nd := sc_law.nd
  refine ⟨_, PSs.nox (pss_cons (ps_for PassesOwn.never rfl (pi_range1 (by rfl) g.range (pa_cons (pe_callB (call_max2 rfl) (by rfl) g.max boot_max (pa_cons pe_int (pa_cons (pe_callB (call_min2 rfl) (by rfl) g.min boot_min (pa_cons (pe_callB (kcall_len (K := K)) (by rfl) g.len boot_len (pa_cons (pv 0) pa_nil)) (pa_cons pe_int pa_nil))) pa_nil))) pa_nil)) (pg_name (i := 1) nd rfl (by first | exact Or.inl rfl | exact Or.inr rfl)) (pss_cons (ps_set (i := 2) nd rfl (by first | exact Or.inl rfl | exact Or.inr rfl) (pe_kn h__law_hand (hr.mono (by decide)) (by rfl) (pa_cons (pv 0) (pa_cons (pv 1) pa_nil))))
  (pss_one (ps_if (pt_not (pt_val (pe_kn h__law_right (hr.mono (by decide)) (by rfl) (pa_cons (pv 2) (pa_cons (pe_kn h__law_machine (hr.mono (by decide)) (by rfl) (pa_cons (pv 2) (pa_cons pe_int (pa_cons pe_int pa_nil)))) pa_nil))))) (pss_one (ps_ret pe_bl)) pss_nil))))
  (pss_one (ps_ret pe_bl))), ?_⟩
  refine St.tru (w := w) (T := T) (B := fun _ => none) (env_startK (N := ["_law_script", "_law_k", "_law_hand_here"]) (ks := [.raw (.ref a)]) (fun _ _ z => nomatch z) (fun _ _ z => nomatch z) h3 rfl fun i kd hk => ?_) ?_ q
  · match i, hk with
    | 0, hk => cases hk; exact ⟨_, rfl, .inr rfl⟩
    | n + 1, hk => cases hk
  show St _ _ [.raw (.ref a), .any, .any] _
  have hmm : ∃ n : Nat, (if (if (12 : Int) < (ns.length : Int) then (12 : Int) else (ns.length : Int)) > 2 then (if (12 : Int) < (ns.length : Int) then (12 : Int) else (ns.length : Int)) else 2) = (n : Int) ∧ n ≤ 12 := by
    by_cases h : (12 : Int) < (ns.length : Int)
    · exact ⟨12, by rw [if_pos h]; rfl, Nat.le_refl _⟩
    · rw [if_neg h]
      by_cases h2 : (ns.length : Int) > 2
      · exact ⟨ns.length, by rw [if_pos h2], by omega⟩
      · exact ⟨2, by rw [if_neg h2]; rfl, by decide⟩
  obtain ⟨n, hmm, hn12⟩ := hmm
  refine st_seq ?_
  refine st_forG (fun _ i => iD i) (List.range n) (fun q Γ => ∃ x1 x2, Γ = [.raw (.ref a), x1, x2]) ?_
  refine it_rngG ?_
  refine ea_cons' ?_
  refine ev_cb ?_
  refine ea_cons' ?_
  refine ev_int ?_
  refine ea_cons' ?_
  refine ev_cb ?_
  refine ea_cons' ?_
  refine ev_cb ?_
  refine ea_cons' ?_
  refine ev_var rfl rfl ?_
  refine ea_nil ?_
  refine cb_lenR rfl hS ?_
  refine ea_cons' ?_
  refine ev_int ?_
  refine ea_nil ?_
  refine cb_min2 ?_
  refine ea_nil ?_
  refine cb_max2 ?_
  rw [hmm]
  refine ea_nil ?_
  refine ⟨n, rfl, by omega, idx_map iD, ⟨_, _, rfl⟩, fun q x r e Γ ⟨x1, x2, hΓ⟩ => ?_, fun Γ ⟨x1, x2, hΓ⟩ => ?_⟩
  · subst hΓ
    have hx : x < n := List.mem_range.mp (by rw [e]; simp)
    refine tg_nameG rfl ?_
    refine st_seq ?_
    refine st_asg ?_
    refine ev_callH rfl rfl rfl hS hn hlog ?_
    repeat walk_at "gm"
    refine ⟨x, rfl, by omega, fun d hd => ?_⟩
    repeat walk_at "gm"
    refine ev_callM rfl rfl ?_
    repeat walk_at "gm"
    refine ev_callM rfl rfl ?_
    repeat walk_at "gm"
    refine ⟨2, _, d, _, _, rfl, rfl, rfl, ⟨d, hd, rfl⟩, fun d1 dm ⟨hd1, m, hm, hm4, hm10, e2⟩ => ?_⟩
    subst e2
    repeat walk_at "gm"
    refine ⟨2, _, d1, _, _, rfl, rfl, rfl, ⟨d1, m, hd1, hm, hm4, hm10, rfl⟩, fun d2 dr ⟨hd2, e3⟩ => ?_⟩
    subst e3
    refine ⟨_, rfl, tk_f rfl ?_⟩
    repeat walk_at "gm"
    exact ⟨_, _, rfl⟩
  · subst hΓ
    repeat walk_at "gm"
    rfl
end
end Gm
namespace Gm
open PySem PySem.Spec PyProof.Rows L2
local macro_rules | `(tactic| walk_at "gm") => `(tactic| first
  | (with_reducible refine st_seq ?_)
  | ((with_reducible show Tg _ (gName _) _ _ _); refine tg_nameG rfl ?_)
  | ((with_reducible show Tg _ (gTup _ _ _) _ _ _); refine tg_tup (by rfl) ?_)
  | (with_reducible refine tgs_cons ?_)
  | (with_reducible refine tgs_nil ?_)
  | (with_reducible refine tgin_name (by decide))
  | (with_reducible refine tgin_tup ?_)
  | (with_reducible refine tgsin_cons ?_ ?_ ?_ ?_)
  | (with_reducible exact tgsin_nil)
  | (with_reducible exact tgm_name)
  | (with_reducible refine tgm_tup ?_)
  | (with_reducible refine tgsm_cons ?_ ?_)
  | (with_reducible exact tgsm_nil)
  | (with_reducible refine ev_neg ?_)
  | ((with_reducible show ∃ i, Rz.d (D.int _) = Rz.d (D.int i) ∧ _); refine ⟨_, rfl, ?_⟩)
  | (with_reducible refine it_enumG ?_)
  | (with_reducible refine it_rngG ?_)
  | (with_reducible refine st_if ?_)
  | (with_reducible refine st_ret ?_)
  | (with_reducible refine st_retN ?_)
  | (with_reducible refine st_drop ?_)
  | (with_reducible refine st_next ?_)
  | (with_reducible refine st_cont ?_)
  | (with_reducible refine et_B ?_)
  | (with_reducible refine et_test ?_)
  | (with_reducible refine et_not ?_)
  | (with_reducible refine et_and ?_)
  | (with_reducible refine et_or ?_)
  | (with_reducible refine ev_andV ?_)
  | (with_reducible refine ev_orV ?_)
  | (with_reducible refine ev_notV ?_)
  | (with_reducible refine ev_if ?_)
  | (with_reducible refine ev_chain ?_)
  | (with_reducible refine ev_op' ?_)
  | (with_reducible refine ev_tupG ?_)
  | (with_reducible refine ev_lstG ?_)
  | (with_reducible refine ev_callG rs_nil rfl rfl ?_)
  | (with_reducible refine ev_cb ?_)
  | (with_reducible refine ev_bm ?_)
  | (with_reducible refine ev_bm0 ?_)
  | (with_reducible refine ev_m1 ?_)
  | (with_reducible refine ev_slice ?_)
  | (with_reducible refine eo_none ?_)
  | (with_reducible refine eo_some ?_)
  | (with_reducible refine ea_cons' ?_)
  | (with_reducible refine ea_nil ?_)
  | ((with_reducible show Ev _ (tVar _) _ _); refine ev_var rfl rfl ?_)
  | (with_reducible refine ev_int ?_)
  | (with_reducible refine ev_str ?_)
  | (with_reducible refine ev_bl ?_)
  | (with_reducible refine ev_non ?_)
  | ((with_reducible show Ev _ (tC (V.ty _)) _ _); refine ev_cx ?_)
  | ((with_reducible show ∃ b, Rz.d (D.bl _) = Rz.d (D.bl b) ∧ _); refine ⟨_, rfl, ?_⟩)
  | ((with_reducible show ∃ ds, unDs _ = some ds ∧ _); refine ⟨_, rfl, ?_⟩)
  | ((with_reducible show List.length _ ≤ 100000 ∧ _); refine and_ble rfl ?_)
  | ((with_reducible show Cb _ (rIsi _) _ _ _); refine cb_isT rfl rfl rfl (by decide) ?_)
  | ((with_reducible show Cb _ (fun xs H Q => ∃ x n, xs = [x] ∧ LenV _ x H n ∧ Q (.int n) H) _ _ _); refine cb_lenG rfl rfl ?_)
  | ((with_reducible show Op2 _ (orR rEq _) _ _ _ _); first | refine op_eqI rfl rfl ?_ | refine op_eqS rfl rfl ?_)
  | ((with_reducible show Op2 _ (orR rNe _) _ _ _ _); first | refine op_neI rfl rfl ?_ | refine op_neB rfl rfl ?_)
  | ((with_reducible show Op2 _ (rI0 _) _ _ _ _); first | refine op_cmpI rfl rfl ?_ | refine op_subI rfl rfl ?_)
  | ((with_reducible show Op2 _ (orR (rI0 _) _) _ _ _ _); refine op_addI rfl rfl ?_)
  | ((with_reducible show Op2 _ (fun x y H Q => y = V.non ∧ _) _ _ _ _); first | refine op_is rfl rfl ?_ | refine op_isnot rfl rfl ?_)
  | ((with_reducible show Op2 _ (fun x y H Q => ∃ (c : Nat) (z : Str), x = V.str ⟨#[c]⟩ ∧ _) _ _ _ _); refine op_inSign rfl rfl ?_)
  | ((with_reducible show Op2 _ (rIx _) _ _ _ _); refine op_ix rfl rfl rfl (fun _ z => by cases z) ?_)
  | (with_reducible refine ev_newN rfl ?_)
  | (with_reducible refine ev_newI ?_)
  | ((with_reducible show Cb _ (fun xs H Q => (∃ i, xs = [V.int i] ∧ _) ∨ _) _ _ _); refine cb_intB rfl ?_)
  | ((with_reducible show Op2 _ (rIn _ _) _ _ _ _); refine op_inL rfl rfl ?_)
  | (with_reducible refine it_listG ?_)
  | (with_reducible refine et_yes ?_)
  | ((with_reducible show ∃ ds, unD _ = some (D.lst ds) ∧ _); refine ⟨_, rfl, ?_⟩)
  | ((with_reducible show ∃ ds, unDs _ = some [D.lst ds] ∧ _); refine ⟨_, rfl, ?_⟩)
  | ((with_reducible show ∃ n, unDs _ = some [iD n] ∧ _); refine ⟨_, rfl, ?_⟩)
  | ((with_reducible show (∃ d, vw _ _ = some d ∧ tyD _ d) ∧ _); refine ⟨⟨_, rfl, rfl⟩, ?_⟩)
  | ((with_reducible show Mt _ rAppend (Rz.o _) [Rz.d _] _ _); refine mt_app rfl ?_ ?_)
  | (with_reducible refine it_enumS ?_)
  | ((with_reducible show ∃ s, unDs _ = some [D.str s] ∧ _); refine ⟨_, rfl, ?_⟩))
section
variable {P : Program} {w : World} {K : PySem.W.Frag} {mg : Str → Option Value} {base : Heap} {T : List NdefX.NTab} {f : Addr} {fd : FuncData}
theorem ok_signs_of_useful (F : FnP K "signs_of" "signs_of" s_signs_of_useful [] f fd) (g : Bl mg) (c : Cn mg)  : FnOk P w K mg base CX0 1 f fd ["machine"] (spR w T pr_signs_of_useful po_signs_of_useful) := by
  refine fnR F sc_signs_of_useful ?_ fun cdv A outer s H E hr => ?_
  · rintro ds h
    (repeat (obtain ⟨_, h⟩ := h))
    first
      | rfl
      | (subst h; rfl)
  have hu := hr.units
  have hu1 := hu_of hr
  have nd := sc_signs_of_useful.nd
  refine ⟨_, (pss_one (ps_ret (kpe (t' := tSortedSet K _) (pe_sortedSet (by rfl) g.sorted (by rfl) g.set rfl (pe_lc (own := [("room", 1), ("sign", 2), ("to", 3)]) (by rfl) nd (kpi_seq (K := K) (pe_ix (kix_seq (K := K)) (pv 0) pe_int (fun _ _ => rfl))) (blkOk_by (own := [("room", 1), ("sign", 2), ("to", 3)]) (N := ["machine", "room", "sign", "to"]) (sc := defScope s_signs_of_useful) (by decide +kernel)) (fun _ _ _ _ _ => (kpg_tup (K := K) (n := 3) rfl (pgs_cons (pg_name (i := 1) nd rfl (by first | exact Or.inl rfl | exact Or.inr rfl)) (pgs_cons (pg_name (i := 2) nd rfl (by first | exact Or.inl rfl | exact Or.inr rfl)) (pgs_cons (pg_name (i := 3) nd rfl (by first | exact Or.inl rfl | exact Or.inr rfl)) pgs_nil))))) (fun _ _ _ _ _ => pts_nil) (fun _ _ _ _ _ => (pv 2))))))), fun H B ds hp => ?_⟩
  obtain ⟨m, hm, rfl⟩ := hp
  repeat walk_at "gm"
  refine ev_sortedS ?_
  refine ev_lcM (fun _ s => stD s) m.st (fun s => sg s.2.1) (by repeat walk_at "gm") (by repeat walk_at "gm") rfl ?_
  repeat walk_at "gm"
  have hl := hm.stL
  refine ⟨by rw [List.length_map]; omega, idx_map stD, rfl, ⟨m.st.map (·.2.1), by rw [List.map_map]; rfl, by rw [List.length_map]; omega, sig_len fun c hc => ?_, fun cs' hs hmem => ?_⟩, fun i x hx Ha => ?_⟩
  · obtain ⟨s, h1, rfl⟩ := List.mem_map.mp hc
    exact (hm.stN s h1).2.1
  · refine ⟨_, rfl, fun m' e => ?_⟩
    simp only [List.cons.injEq, and_true] at e
    rw [← Mach.d_inj e]
    have : cs' = m.sig := sorted_eqN hs m.sig_pw fun x => by rw [hmem, Mach.mem_sig hm, List.mem_map]
    rw [this]
    rfl
  · repeat walk_at "gm"
    exact ⟨rfl, rfl⟩
end
end Gm
set_option maxHeartbeats 0
namespace Gm
open PySem PySem.Spec PyProof.Rows L2 NdefX LamX
theorem code_of {K : PySem.W.Frag} {x qual : Str} {params : Arguments} {body : List Stmt} {scope : Scope} {dvs : List V} {kws : List (Str × V)} {p : Str × Option Str} {fd : FuncData} (F : FunD K x qual params body scope dvs kws (He.fAd K p) fd) : fd.code = .ref (He.codeOf K p) := by
  obtain ⟨oc, od, dV, kV, doc, pm, an, cdv, ct, osl, rfl, lk, hcd, _, _⟩ := F.ex
  obtain ⟨c, e⟩ := He.codeIn_ref hcd
  rw [He.codeOf_eq lk e]
  exact e
def hT (K : PySem.W.Frag) : List NTab := [((He.cT K ("double_text", none)).2, fun _ _ => q_nextsD), ((He.cT K ("led_text_rounds", none)).2, fun _ _ => q_nextsL)]
theorem kn_of {P : Program} {w : World} {K : PySem.W.Frag} {mg : Str → Option Value} {base : Heap} {x : Str} {k : Nat} {sp : Sp} {f : Addr} {fd : FuncData} {ps : List Str} (h : FnOk P w K mg base CX0 k f fd ps sp) (hm : mg x = some (.ref f)) (hk : PySem.W.keepIn K (.ref f) = true) (hb : Binds K fd ps []) : Kn P w K mg base x k [] sp := ⟨f, fd, ps, [], h, hm, hk, hb, .nil⟩
theorem kn_ofD {P : Program} {w : World} {K : PySem.W.Frag} {mg : Str → Option Value} {base : Heap} {x : Str} {k : Nat} {sp : Sp} {f : Addr} {fd : FuncData} {ps : List Str} {dvs : List V} (h : FnOk P w K mg base CX0 k f fd ps sp) (hm : mg x = some (.ref f)) (hk : PySem.W.keepIn K (.ref f) = true) (hb : ∃ ds, Vals dvs ds ∧ Binds K fd ps ds) : Kn P w K mg base x k dvs sp := by
  obtain ⟨ds, h1, h2⟩ := hb
  exact ⟨f, fd, ps, ds, h, hm, hk, h2, h1⟩
theorem hlaw {P : Program} {w : World} {K : PySem.W.Frag} {h base : Heap} {mg : Str → Option Value} (X : K.In base) (G : base.Ns mainGlobals mg) (c : He.SaysX hfa hfn [] htf hex w h K) (TB : ∀ p ∈ htf, TabB base mg (He.cT K p).1 (He.cT K p).2) {fd_law : FuncData} (F_law : FnP K "law" "law" s_law [] (He.ga K "law") fd_law) :
    FnOk P w K mg base CX0 14 (He.ga K "law") fd_law ["_law_script"] (spLaw w K (hT K)) := by
  have cd := c.t.d
  have gl : ∀ x, He.Fa.glo x ∈ hfa → mg x = some (.ref (He.ga K x)) := fun x hx => He.glo_ok X G (cd.facts hx)
  have fr : ∀ x, He.Fa.free x ∈ hfa → mg x = none := fun x hx => He.free_ok X G (cd.facts hx)
  have ci : ∀ x i, He.Fa.int x i ∈ hfa → Kc mg x (.int i) := fun x i hx => by
    obtain ⟨t, e⟩ := He.int_ok X G (cd.facts hx)
    exact ⟨_, e, t, rfl⟩
  have fc : ∀ (i : Nat) (f : He.Fa), hfa[i]? = some f → f ∈ hfa := fun i f e => List.mem_of_getElem? e
  have g : Bl mg := ⟨fr _ (fc 57 _ rfl), fr _ (fc 58 _ rfl), fr _ (fc 59 _ rfl), fr _ (fc 60 _ rfl), fr _ (fc 61 _ rfl), fr _ (fc 62 _ rfl), fr _ (fc 63 _ rfl), fr _ (fc 64 _ rfl), fr _ (fc 65 _ rfl), fr _ (fc 66 _ rfl), fr _ (fc 67 _ rfl), fr _ (fc 68 _ rfl), fr _ (fc 69 _ rfl), fr _ (fc 70 _ rfl), fr _ (fc 71 _ rfl), fr _ (fc 72 _ rfl), fr _ (fc 73 _ rfl)⟩
  have cc : Cn mg := by
    obtain ⟨t, e⟩ := He.str_ok X G (cd.facts (fc 79 _ rfl))
    exact ⟨⟨_, e, t, rfl⟩, ci _ _ (fc 74 _ rfl), ci _ _ (fc 75 _ rfl), ci _ _ (fc 76 _ rfl), ci _ _ (fc 77 _ rfl), ci _ _ (fc 78 _ rfl)⟩
  have hne : (He.cT K ("double_text", none)).2 ≠ (He.cT K ("led_text_rounds", none)).2 := fun z => by
    have m := c.more
    unfold hex at m
    rw [decide_eq_true z] at m
    cases m
  obtain ⟨fd__law_handS, F__law_handS⟩ := cd.def_ 0 (d := dd__law_handS) rfl
  have k__law_handS : K__law_handS P w K mg base (hT K) := kn_of (ok__law_handS (T := hT K) F__law_handS g cc ) (gl _ (fc 0 _ rfl)) F__law_handS.kp (FunD.bindsN F__law_handS fun _ _ _ _ _ _ us hl => match us, hl with | [_, _], _ => rfl)
  obtain ⟨fd__law_draw, F__law_draw⟩ := cd.def_ 1 (d := dd__law_draw) rfl
  have k__law_draw : K__law_draw P w K mg base (hT K) := kn_of (ok__law_draw (T := hT K) F__law_draw g cc ) (gl _ (fc 1 _ rfl)) F__law_draw.kp (FunD.bindsN F__law_draw fun _ _ _ _ _ _ us hl => match us, hl with | [_, _], _ => rfl)
  obtain ⟨fd__law_rooms, F__law_rooms⟩ := cd.def_ 2 (d := dd__law_rooms) rfl
  have k__law_rooms : K__law_rooms P w K mg base (hT K) := kn_of (ok__law_rooms (T := hT K) F__law_rooms g cc k__law_draw) (gl _ (fc 2 _ rfl)) F__law_rooms.kp (FunD.bindsN F__law_rooms fun _ _ _ _ _ _ us hl => match us, hl with | [_, _, _], _ => rfl)
  obtain ⟨fd__law_machine, F__law_machine⟩ := cd.def_ 3 (d := dd__law_machine) rfl
  have k__law_machine : K__law_machine P w K mg base (hT K) := kn_of (ok__law_machine (T := hT K) F__law_machine g cc k__law_draw k__law_rooms) (gl _ (fc 3 _ rfl)) F__law_machine.kp (FunD.bindsN F__law_machine fun _ _ _ _ _ _ us hl => match us, hl with | [_, _, _], _ => rfl)
  obtain ⟨fd_is_whole, F_is_whole⟩ := cd.def_ 4 (d := dd_is_whole) rfl
  have k_is_whole : K_is_whole P w K mg base (hT K) := kn_of (ok_is_whole (T := hT K) F_is_whole g cc ) (gl _ (fc 4 _ rfl)) F_is_whole.kp (FunD.bindsN F_is_whole fun _ _ _ _ _ _ us hl => match us, hl with | [_], _ => rfl)
  obtain ⟨fd_is_within, F_is_within⟩ := cd.def_ 5 (d := dd_is_within) rfl
  have k_is_within : K_is_within P w K mg base (hT K) := kn_of (ok_is_within (T := hT K) F_is_within g cc k_is_whole) (gl _ (fc 5 _ rfl)) F_is_within.kp (FunD.bindsN F_is_within fun _ _ _ _ _ _ us hl => match us, hl with | [_, _, _], _ => rfl)
  obtain ⟨fd_look_at_rooms, F_look_at_rooms⟩ := cd.def_ 6 (d := dd_look_at_rooms) rfl
  have k_look_at_rooms : K_look_at_rooms P w K mg base (hT K) := kn_of (ok_look_at_rooms (T := hT K) F_look_at_rooms g cc k_is_within) (gl _ (fc 6 _ rfl)) F_look_at_rooms.kp (FunD.bindsN F_look_at_rooms fun _ _ _ _ _ _ us hl => match us, hl with | [_, _, _], _ => rfl)
  obtain ⟨fd_is_sign, F_is_sign⟩ := cd.def_ 7 (d := dd_is_sign) rfl
  have k_is_sign : K_is_sign P w K mg base (hT K) := kn_of (ok_is_sign (T := hT K) F_is_sign g cc ) (gl _ (fc 7 _ rfl)) F_is_sign.kp (FunD.bindsN F_is_sign fun _ _ _ _ _ _ us hl => match us, hl with | [_], _ => rfl)
  obtain ⟨fd_is_step, F_is_step⟩ := cd.def_ 8 (d := dd_is_step) rfl
  have k_is_step : K_is_step P w K mg base (hT K) := kn_of (ok_is_step (T := hT K) F_is_step g cc k_is_sign k_is_within) (gl _ (fc 8 _ rfl)) F_is_step.kp (FunD.bindsN F_is_step fun _ _ _ _ _ _ us hl => match us, hl with | [_, _], _ => rfl)
  obtain ⟨fd_look_at_steps, F_look_at_steps⟩ := cd.def_ 9 (d := dd_look_at_steps) rfl
  have k_look_at_steps : K_look_at_steps P w K mg base (hT K) := kn_of (ok_look_at_steps (T := hT K) F_look_at_steps g cc k_is_step) (gl _ (fc 9 _ rfl)) F_look_at_steps.kp (FunD.bindsN F_look_at_steps fun _ _ _ _ _ _ us hl => match us, hl with | [_, _], _ => rfl)
  obtain ⟨fd_look_at, F_look_at⟩ := cd.def_ 10 (d := dd_look_at) rfl
  have k_look_at : K_look_at P w K mg base (hT K) := kn_of (ok_look_at (T := hT K) F_look_at g cc k_is_within k_look_at_rooms k_look_at_steps) (gl _ (fc 10 _ rfl)) F_look_at.kp (FunD.bindsN F_look_at fun _ _ _ _ _ _ us hl => match us, hl with | [_], _ => rfl)
  obtain ⟨fd_look_at_most, F_look_at_most⟩ := cd.def_ 11 (d := dd_look_at_most) rfl
  have k_look_at_most : K_look_at_most P w K mg base (hT K) := kn_of (ok_look_at_most (T := hT K) F_look_at_most g cc k_is_within) (gl _ (fc 11 _ rfl)) F_look_at_most.kp (FunD.bindsN F_look_at_most fun _ _ _ _ _ _ us hl => match us, hl with | [_, _], _ => rfl)
  obtain ⟨fd_signs_of_sets, F_signs_of_sets⟩ := cd.def_ 12 (d := dd_signs_of_sets) rfl
  have k_signs_of_sets : K_signs_of_sets P w K mg base (hT K) := kn_of (ok_signs_of_sets (T := hT K) F_signs_of_sets g cc ) (gl _ (fc 12 _ rfl)) F_signs_of_sets.kp (FunD.bindsN F_signs_of_sets fun _ _ _ _ _ _ us hl => match us, hl with | [_], _ => rfl)
  obtain ⟨fd_set_by, F_set_by⟩ := cd.def_ 13 (d := dd_set_by) rfl
  have k_set_by : K_set_by P w K mg base (hT K) := kn_of (ok_set_by (T := hT K) F_set_by g cc ) (gl _ (fc 13 _ rfl)) F_set_by.kp (FunD.bindsN F_set_by fun _ _ _ _ _ _ us hl => match us, hl with | [_, _, _], _ => rfl)
  obtain ⟨fd_rooms_text, F_rooms_text⟩ := cd.def_ 14 (d := dd_rooms_text) rfl
  have k_rooms_text : K_rooms_text P w K mg base (hT K) := kn_of (ok_rooms_text (T := hT K) F_rooms_text g cc k_look_at k_is_within) (gl _ (fc 14 _ rfl)) F_rooms_text.kp (FunD.bindsN F_rooms_text fun _ _ _ _ _ _ us hl => match us, hl with | [_, _], _ => rfl)
  obtain ⟨fd_sets_of, F_sets_of⟩ := cd.def_ 15 (d := dd_sets_of) rfl
  have k_sets_of : K_sets_of P w K mg base (hT K) := kn_ofD (ok_sets_of (T := hT K) F_sets_of g cc k_look_at k_look_at_most k_signs_of_sets k_set_by k_rooms_text) (gl _ (fc 15 _ rfl)) F_sets_of.kp (FunD.binds1 F_sets_of 1 0 (List.cons_ne_nil _ _) rfl fun _ _ _ _ _ _ _ us its hl hi => match us, hl, its, hi with | [_], _, [_], _ => ⟨_, rfl, rfl⟩)
  obtain ⟨fd_look_at_word, F_look_at_word⟩ := cd.def_ 16 (d := dd_look_at_word) rfl
  have k_look_at_word : K_look_at_word P w K mg base (hT K) := kn_of (ok_look_at_word (T := hT K) F_look_at_word g cc k_is_sign) (gl _ (fc 16 _ rfl)) F_look_at_word.kp (FunD.bindsN F_look_at_word fun _ _ _ _ _ _ us hl => match us, hl with | [_], _ => rfl)
  obtain ⟨fd_look_at_room, F_look_at_room⟩ := cd.def_ 17 (d := dd_look_at_room) rfl
  have k_look_at_room : K_look_at_room P w K mg base (hT K) := kn_of (ok_look_at_room (T := hT K) F_look_at_room g cc k_is_within) (gl _ (fc 17 _ rfl)) F_look_at_room.kp (FunD.bindsN F_look_at_room fun _ _ _ _ _ _ us hl => match us, hl with | [_, _], _ => rfl)
  obtain ⟨fd_sum_at, F_sum_at⟩ := cd.def_ 18 (d := dd_sum_at) rfl
  have k_sum_at : K_sum_at P w K mg base (hT K) := kn_of (ok_sum_at (T := hT K) F_sum_at g cc ) (gl _ (fc 18 _ rfl)) F_sum_at.kp (FunD.bindsN F_sum_at fun _ _ _ _ _ _ us hl => match us, hl with | [_, _], _ => rfl)
  obtain ⟨fd_moved, F_moved⟩ := cd.def_ 19 (d := dd_moved) rfl
  have k_moved : K_moved P w K mg base (hT K) := kn_of (ok_moved (T := hT K) F_moved g cc ) (gl _ (fc 19 _ rfl)) F_moved.kp (FunD.bindsN F_moved fun _ _ _ _ _ _ us hl => match us, hl with | [_, _, _], _ => rfl)
  obtain ⟨fd_moved_by, F_moved_by⟩ := cd.def_ 20 (d := dd_moved_by) rfl
  have k_moved_by : K_moved_by P w K mg base (hT K) := kn_of (ok_moved_by (T := hT K) F_moved_by g cc k_moved) (gl _ (fc 20 _ rfl)) F_moved_by.kp (FunD.bindsN F_moved_by fun _ _ _ _ _ _ us hl => match us, hl with | [_, _, _], _ => rfl)
  obtain ⟨fd_alone_at, F_alone_at⟩ := cd.def_ 21 (d := dd_alone_at) rfl
  have k_alone_at : K_alone_at P w K mg base (hT K) := kn_of (ok_alone_at (T := hT K) F_alone_at g cc ) (gl _ (fc 21 _ rfl)) F_alone_at.kp (FunD.bindsN F_alone_at fun _ _ _ _ _ _ us hl => match us, hl with | [_, _], _ => rfl)
  obtain ⟨fd_ways, F_ways⟩ := cd.def_ 22 (d := dd_ways) rfl
  have k_ways : K_ways P w K mg base (hT K) := kn_ofD (ok_ways (T := hT K) F_ways g cc k_look_at k_look_at_word k_look_at_room k_sum_at k_moved_by k_alone_at) (gl _ (fc 22 _ rfl)) F_ways.kp (FunD.binds1 F_ways 2 0 (List.cons_ne_nil _ _) rfl fun _ _ _ _ _ _ _ us its hl hi => match us, hl, its, hi with | [_, _], _, [_, _], _ => ⟨_, rfl, rfl⟩)
  obtain ⟨fd__law_led, F__law_led⟩ := cd.def_ 23 (d := dd__law_led) rfl
  have k__law_led : K__law_led P w K mg base (hT K) := kn_of (ok__law_led (T := hT K) F__law_led g cc ) (gl _ (fc 23 _ rfl)) F__law_led.kp (FunD.bindsN F__law_led fun _ _ _ _ _ _ us hl => match us, hl with | [_, _, _], _ => rfl)
  obtain ⟨fd__law_after, F__law_after⟩ := cd.def_ 24 (d := dd__law_after) rfl
  have k__law_after : K__law_after P w K mg base (hT K) := kn_of (ok__law_after (T := hT K) F__law_after g cc k__law_led) (gl _ (fc 24 _ rfl)) F__law_after.kp (FunD.bindsN F__law_after fun _ _ _ _ _ _ us hl => match us, hl with | [_, _], _ => rfl)
  obtain ⟨fd__law_fit, F__law_fit⟩ := cd.def_ 25 (d := dd__law_fit) rfl
  have k__law_fit : K__law_fit P w K mg base (hT K) := kn_of (ok__law_fit (T := hT K) F__law_fit g cc k__law_after) (gl _ (fc 25 _ rfl)) F__law_fit.kp (FunD.bindsN F__law_fit fun _ _ _ _ _ _ us hl => match us, hl with | [_, _], _ => rfl)
  obtain ⟨fd__law_made, F__law_made⟩ := cd.def_ 26 (d := dd__law_made) rfl
  have k__law_made : K__law_made P w K mg base (hT K) := kn_of (ok__law_made (T := hT K) F__law_made g cc ) (gl _ (fc 26 _ rfl)) F__law_made.kp (FunD.bindsN F__law_made fun _ _ _ _ _ _ us hl => match us, hl with | [_, _], _ => rfl)
  obtain ⟨fd__law_words, F__law_words⟩ := cd.def_ 27 (d := dd__law_words) rfl
  have k__law_words : K__law_words P w K mg base (hT K) := kn_of (ok__law_words (T := hT K) F__law_words g cc ) (gl _ (fc 27 _ rfl)) F__law_words.kp (FunD.bindsN F__law_words fun _ _ _ _ _ _ us hl => match us, hl with | [_], _ => rfl)
  obtain ⟨fd__law_signs, F__law_signs⟩ := cd.def_ 28 (d := dd__law_signs) rfl
  have k__law_signs : K__law_signs P w K mg base (hT K) := kn_of (ok__law_signs (T := hT K) F__law_signs g cc ) (gl _ (fc 28 _ rfl)) F__law_signs.kp (FunD.bindsN F__law_signs fun _ _ _ _ _ _ us hl => match us, hl with | [_], _ => rfl)
  obtain ⟨fd__law_word, F__law_word⟩ := cd.def_ 29 (d := dd__law_word) rfl
  have k__law_word : K__law_word P w K mg base (hT K) := kn_of (ok__law_word (T := hT K) F__law_word g cc k__law_draw k__law_signs) (gl _ (fc 29 _ rfl)) F__law_word.kp (FunD.bindsN F__law_word fun _ _ _ _ _ _ us hl => match us, hl with | [_, _, _], _ => rfl)
  obtain ⟨fd_come_to, F_come_to⟩ := cd.def_ 30 (d := dd_come_to) rfl
  have k_come_to : K_come_to P w K mg base (hT K) := kn_of (ok_come_to (T := hT K) F_come_to g cc ) (gl _ (fc 30 _ rfl)) F_come_to.kp (FunD.bindsN F_come_to fun _ _ _ _ _ _ us hl => match us, hl with | [_, _], _ => rfl)
  obtain ⟨fd_useful, F_useful⟩ := cd.def_ 31 (d := dd_useful) rfl
  have k_useful : K_useful P w K mg base (hT K) := kn_of (ok_useful (T := hT K) F_useful g cc k_look_at k_come_to) (gl _ (fc 31 _ rfl)) F_useful.kp (FunD.bindsN F_useful fun _ _ _ _ _ _ us hl => match us, hl with | [_], _ => rfl)
  obtain ⟨fd_by_signs, F_by_signs⟩ := cd.def_ 32 (d := dd_by_signs) rfl
  have k_by_signs : K_by_signs P w K mg base (hT K) := kn_of (ok_by_signs (T := hT K) F_by_signs g cc ) (gl _ (fc 32 _ rfl)) F_by_signs.kp (FunD.bindsN F_by_signs fun _ _ _ _ _ _ us hl => match us, hl with | [_], _ => rfl)
  obtain ⟨fd_trimmed, F_trimmed⟩ := cd.def_ 33 (d := dd_trimmed) rfl
  have k_trimmed : K_trimmed P w K mg base (hT K) := kn_of (ok_trimmed (T := hT K) F_trimmed g cc k_useful) (gl _ (fc 33 _ rfl)) F_trimmed.kp (FunD.bindsN F_trimmed fun _ _ _ _ _ _ us hl => match us, hl with | [_], _ => rfl)
  obtain ⟨fd_first_text, F_first_text⟩ := cd.def_ 34 (d := dd_first_text) rfl
  have k_first_text : KFt P w K mg base (hT K) := ⟨_, _, _, ft_first_text (T := hT K) F_first_text g cc , gl _ (fc 34 _ rfl), F_first_text.kp, (FunD.bindsN F_first_text fun _ _ _ _ _ _ us hl => match us, hl with | [_, _, _, _], _ => rfl)⟩
  obtain ⟨fd_double_text, F_double_text⟩ := cd.def_ 35 (d := dd_double_text) rfl
  have tb_double_text : Tb base mg (hT K) fd_double_text q_nextsD := ⟨_, _, code_of F_double_text, TB ("double_text", none) List.mem_cons_self, List.mem_cons_self, fun z hz e => by
    rcases List.mem_cons.mp hz with rfl | hz
    · rfl
    · rw [List.mem_singleton] at hz
      subst hz
      exact absurd e.symm hne⟩
  have k_double_text : K_double_text P w K mg base (hT K) := kn_of (ok_double_text (T := hT K) F_double_text tb_double_text k_first_text) (gl _ (fc 35 _ rfl)) F_double_text.kp (FunD.bindsN F_double_text fun _ _ _ _ _ _ us hl => match us, hl with | [_, _, _], _ => rfl)
  obtain ⟨fd_signs_of_useful, F_signs_of_useful⟩ := cd.def_ 36 (d := dd_signs_of_useful) rfl
  have k_signs_of_useful : K_signs_of_useful P w K mg base (hT K) := kn_of (ok_signs_of_useful (T := hT K) F_signs_of_useful g cc ) (gl _ (fc 36 _ rfl)) F_signs_of_useful.kp (FunD.bindsN F_signs_of_useful fun _ _ _ _ _ _ us hl => match us, hl with | [_], _ => rfl)
  obtain ⟨fd_double_rounds, F_double_rounds⟩ := cd.def_ 37 (d := dd_double_rounds) rfl
  have k_double_rounds : K_double_rounds P w K mg base (hT K) := kn_of (ok_double_rounds (T := hT K) F_double_rounds g cc k_useful k_by_signs k_trimmed k_double_text k_signs_of_useful) (gl _ (fc 37 _ rfl)) F_double_rounds.kp (FunD.bindsN F_double_rounds fun _ _ _ _ _ _ us hl => match us, hl with | [_], _ => rfl)
  obtain ⟨fd_led_text_rounds, F_led_text_rounds⟩ := cd.def_ 38 (d := dd_led_text_rounds) rfl
  have tb_led_text_rounds : Tb base mg (hT K) fd_led_text_rounds q_nextsL := ⟨_, _, code_of F_led_text_rounds, TB ("led_text_rounds", none) (List.mem_cons_of_mem _ List.mem_cons_self), List.mem_cons_of_mem _ List.mem_cons_self, fun z hz e => by
    rcases List.mem_cons.mp hz with rfl | hz
    · exact absurd e hne
    · rw [List.mem_singleton] at hz
      subst hz
      rfl⟩
  have k_led_text_rounds : K_led_text_rounds P w K mg base (hT K) := kn_of (ok_led_text_rounds (T := hT K) F_led_text_rounds tb_led_text_rounds k_first_text) (gl _ (fc 38 _ rfl)) F_led_text_rounds.kp (FunD.bindsN F_led_text_rounds fun _ _ _ _ _ _ us hl => match us, hl with | [_, _, _, _], _ => rfl)
  obtain ⟨fd_led_rounds, F_led_rounds⟩ := cd.def_ 39 (d := dd_led_rounds) rfl
  have k_led_rounds : K_led_rounds P w K mg base (hT K) := kn_of (ok_led_rounds (T := hT K) F_led_rounds g cc k_useful k_by_signs k_trimmed k_led_text_rounds k_signs_of_useful) (gl _ (fc 39 _ rfl)) F_led_rounds.kp (FunD.bindsN F_led_rounds fun _ _ _ _ _ _ us hl => match us, hl with | [_], _ => rfl)
  obtain ⟨fd_raised, F_raised⟩ := cd.def_ 40 (d := dd_raised) rfl
  have k_raised : K_raised P w K mg base (hT K) := kn_of (ok_raised (T := hT K) F_raised g cc ) (gl _ (fc 40 _ rfl)) F_raised.kp (FunD.bindsN F_raised fun _ _ _ _ _ _ us hl => match us, hl with | [_, _, _], _ => rfl)
  obtain ⟨fd_ranks, F_ranks⟩ := cd.def_ 41 (d := dd_ranks) rfl
  have k_ranks : K_ranks P w K mg base (hT K) := kn_of (ok_ranks (T := hT K) F_ranks g cc k_double_rounds k_useful k_led_rounds k_trimmed k_raised) (gl _ (fc 41 _ rfl)) F_ranks.kp (FunD.bindsN F_ranks fun _ _ _ _ _ _ us hl => match us, hl with | [_], _ => rfl)
  obtain ⟨fd_greatest_rank, F_greatest_rank⟩ := cd.def_ 42 (d := dd_greatest_rank) rfl
  have k_greatest_rank : K_greatest_rank P w K mg base (hT K) := kn_of (ok_greatest_rank (T := hT K) F_greatest_rank g cc ) (gl _ (fc 42 _ rfl)) F_greatest_rank.kp (FunD.bindsN F_greatest_rank fun _ _ _ _ _ _ us hl => match us, hl with | [_], _ => rfl)
  obtain ⟨fd_growth, F_growth⟩ := cd.def_ 43 (d := dd_growth) rfl
  have k_growth : K_growth P w K mg base (hT K) := kn_of (ok_growth (T := hT K) F_growth g cc k_ranks k_greatest_rank) (gl _ (fc 43 _ rfl)) F_growth.kp (FunD.bindsN F_growth fun _ _ _ _ _ _ us hl => match us, hl with | [_], _ => rfl)
  obtain ⟨fd_is_last, F_is_last⟩ := cd.def_ 44 (d := dd_is_last) rfl
  have k_is_last : K_is_last P w K mg base (hT K) := kn_of (ok_is_last (T := hT K) F_is_last g cc ) (gl _ (fc 44 _ rfl)) F_is_last.kp (FunD.bindsN F_is_last fun _ _ _ _ _ _ us hl => match us, hl with | [_, _], _ => rfl)
  obtain ⟨fd_is_parting, F_is_parting⟩ := cd.def_ 45 (d := dd_is_parting) rfl
  have k_is_parting : K_is_parting P w K mg base (hT K) := kn_of (ok_is_parting (T := hT K) F_is_parting g cc k_is_last) (gl _ (fc 45 _ rfl)) F_is_parting.kp (FunD.bindsN F_is_parting fun _ _ _ _ _ _ us hl => match us, hl with | [_, _, _], _ => rfl)
  obtain ⟨fd_both_signs, F_both_signs⟩ := cd.def_ 46 (d := dd_both_signs) rfl
  have k_both_signs : K_both_signs P w K mg base (hT K) := kn_of (ok_both_signs (T := hT K) F_both_signs g cc k_signs_of_sets) (gl _ (fc 46 _ rfl)) F_both_signs.kp (FunD.bindsN F_both_signs fun _ _ _ _ _ _ us hl => match us, hl with | [_, _], _ => rfl)
  obtain ⟨fd_pairs_of, F_pairs_of⟩ := cd.def_ 47 (d := dd_pairs_of) rfl
  have k_pairs_of : K_pairs_of P w K mg base (hT K) := kn_of (ok_pairs_of (T := hT K) F_pairs_of g cc k_is_parting k_both_signs k_set_by) (gl _ (fc 47 _ rfl)) F_pairs_of.kp (FunD.bindsN F_pairs_of fun _ _ _ _ _ _ us hl => match us, hl with | [_, _, _], _ => rfl)
  obtain ⟨fd_parting, F_parting⟩ := cd.def_ 48 (d := dd_parting) rfl
  have k_parting : K_parting P w K mg base (hT K) := kn_of (ok_parting (T := hT K) F_parting g cc k_look_at k_pairs_of k_is_parting) (gl _ (fc 48 _ rfl)) F_parting.kp (FunD.bindsN F_parting fun _ _ _ _ _ _ us hl => match us, hl with | [_, _], _ => rfl)
  obtain ⟨fd_closed_of, F_closed_of⟩ := cd.def_ 49 (d := dd_closed_of) rfl
  have k_closed_of : K_closed_of P w K mg base (hT K) := kn_ofD (ok_closed_of (T := hT K) F_closed_of g cc k_look_at k_look_at_most k_parting k_pairs_of k_rooms_text) (gl _ (fc 49 _ rfl)) F_closed_of.kp (FunD.binds1 F_closed_of 2 0 (List.cons_ne_nil _ _) rfl fun _ _ _ _ _ _ _ us its hl hi => match us, hl, its, hi with | [_, _], _, [_], _ => ⟨_, rfl, rfl⟩)
  obtain ⟨fd_is_set_text, F_is_set_text⟩ := cd.def_ 50 (d := dd_is_set_text) rfl
  have k_is_set_text : K_is_set_text P w K mg base (hT K) := kn_of (ok_is_set_text (T := hT K) F_is_set_text g cc ) (gl _ (fc 50 _ rfl)) F_is_set_text.kp (FunD.bindsN F_is_set_text fun _ _ _ _ _ _ us hl => match us, hl with | [_, _], _ => rfl)
  obtain ⟨fd_is_pair, F_is_pair⟩ := cd.def_ 51 (d := dd_is_pair) rfl
  have k_is_pair : K_is_pair P w K mg base (hT K) := kn_of (ok_is_pair (T := hT K) F_is_pair g cc k_is_set_text) (gl _ (fc 51 _ rfl)) F_is_pair.kp (FunD.bindsN F_is_pair fun _ _ _ _ _ _ us hl => match us, hl with | [_, _, _], _ => rfl)
  obtain ⟨fd_rooms_of, F_rooms_of⟩ := cd.def_ 52 (d := dd_rooms_of) rfl
  have k_rooms_of : K_rooms_of P w K mg base (hT K) := kn_of (ok_rooms_of (T := hT K) F_rooms_of g cc ) (gl _ (fc 52 _ rfl)) F_rooms_of.kp (FunD.bindsN F_rooms_of fun _ _ _ _ _ _ us hl => match us, hl with | [_], _ => rfl)
  obtain ⟨fd_led_text_sameness, F_led_text_sameness⟩ := cd.def_ 53 (d := dd_led_text_sameness) rfl
  have k_led_text_sameness : K_led_text_sameness P w K mg base (hT K) := kn_of (ok_led_text_sameness (T := hT K) F_led_text_sameness g cc k_rooms_of k_set_by k_rooms_text) (gl _ (fc 53 _ rfl)) F_led_text_sameness.kp (FunD.bindsN F_led_text_sameness fun _ _ _ _ _ _ us hl => match us, hl with | [_, _, _], _ => rfl)
  obtain ⟨fd_lets_closed, F_lets_closed⟩ := cd.def_ 54 (d := dd_lets_closed) rfl
  have k_lets_closed : K_lets_closed P w K mg base (hT K) := kn_of (ok_lets_closed (T := hT K) F_lets_closed g cc k_look_at k_is_pair k_rooms_text k_is_parting k_rooms_of k_both_signs k_led_text_sameness) (gl _ (fc 54 _ rfl)) F_lets_closed.kp (FunD.bindsN F_lets_closed fun _ _ _ _ _ _ us hl => match us, hl with | [_, _, _], _ => rfl)
  obtain ⟨fd__law_right, F__law_right⟩ := cd.def_ 55 (d := dd__law_right) rfl
  have k__law_right : K__law_right P w K mg base (hT K) := kn_of (ok__law_right (T := hT K) F__law_right g cc k_sets_of k_ways k__law_fit k__law_made k__law_words k__law_word k__law_signs k_growth k_parting k_closed_of k_lets_closed) (gl _ (fc 55 _ rfl)) F__law_right.kp (FunD.bindsN F__law_right fun _ _ _ _ _ _ us hl => match us, hl with | [_, _], _ => rfl)
  exact ok_law (T := hT K) F_law g cc k__law_handS k__law_machine k__law_right
end Gm
namespace Gm
open PySem PySem.Spec PyProof.Rows L2 NdefX LamX
theorem bits_log {z : Int} (h : Builtin.Int.intBits z ≤ 1048576) : z.natAbs.log2 < 10000000 := by
  unfold Builtin.Int.intBits at h
  split at h
  · rename_i e
    rw [eq_of_beq e]
    decide
  · omega
theorem hat {l : PySem.W.OpenLaw} {w : World} {K : PySem.W.Frag} {mg : Str → Option Value} {h : Heap} {fa : Addr} (X : K.In h) (G : h.Ns mainGlobals mg) (hfa2 : mg ("law" : Str) = some (.ref fa)) (c : He.SaysX hfa hfn [] htf hex w h K) : LawAtS l w K L2.CX0 14 63 "_law_script" mg fa h := by
  have hm : He.Fa.glo "law" ∈ hfa := List.mem_of_getElem? (i := 56) rfl
  have e := hfa2.symm.trans (He.glo_ok X G (c.t.d.facts hm))
  cases e
  obtain ⟨fd, F⟩ := c.t.d.def_ 56 (d := dd_law) rfl
  refine ⟨fd, htf.map (He.cT K), spLaw w K (hT K), fun p hp => ?_, fun p hp => ?_, fun p hp => ?_, fun s u => FunD.bindsA (ps := ["_law_script"]) F (fun _ _ _ _ _ _ us hl => match us, hl with | [_], _ => rfl) s [u] rfl, fun H a ns hn hb hH hS => ?_, fun base KX G2 TB => ?_⟩
  · obtain ⟨q, hq, rfl⟩ := List.mem_map.mp hp
    exact c.empty q hq
  · obtain ⟨q, hq, rfl⟩ := List.mem_map.mp hp
    exact c.out q hq
  · obtain ⟨q, hq, rfl⟩ := List.mem_map.mp hp
    exact PySem.W.codeHd_of_K X (c.hd q hq)
  · refine ⟨a, ns, rfl, hS, by omega, fun i hi => bits_log (hb i hi), fun p hp => ?_, fun _ => rfl⟩
    rcases List.mem_cons.mp hp with rfl | hp
    · exact TabN.nil (hH _ (List.mem_map_of_mem (List.mem_cons_self)))
    · rw [List.mem_singleton] at hp
      subst hp
      exact TabN.nil (hH _ (List.mem_map_of_mem (List.mem_cons_of_mem _ List.mem_cons_self)))
  · exact hlaw KX G2 c (fun p hp => TB _ (List.mem_map_of_mem hp)) F
end Gm
open PySem PySem.W PySem.Calls PyProof.Rows
theorem PySem.Challenge.cw_triesgrow_k38_whole_a_machine_of_sets_holds : PySem.Challenge.rw_triesgrow_k38_whole_a_machine_of_sets.Holds := by
  w_on; o_law
  refine HandSHeadRun.head_any (r := Gm.hR) (q := Gm.hq) (H := Gm.hhk) (ob := Gm.hob) (M := 20000) (loose := Gm.hns) (d := HandSHeadRun.topDef Gm.hR.prog 84) (kwd := []) Gm.hob_eq
    (by kernel_rfl) (fun s => by kernel_rfl) Gm.hrun (by kernel_rfl) (by kernel_rfl) (by kernel_rfl) (by rfl) (by first | assumption | decide +kernel) (by decide +kernel) ⟨rfl, rfl, rfl, rfl, rfl, by decide +kernel⟩ ?hw ?hc
  case hw => w_witness2
  case hc =>
    refine LamX.walk_ofTsE (l := PySem.Challenge.rw_triesgrow_k38_whole_a_machine_of_sets) (n := 63) (k := 14) (x := "_law_script") (CX := fun _ => L2.CX0) rfl (by decide) (by kernel_rfl) ⟨rfl, by decide, by decide⟩ ?F (fun _ _ _ _ _ z => z)
    intro w mg fa h Y G hmg0
    obtain ⟨K, KX, c⟩ := Y
    have hmg : mg ("law" : PySem.Str) = some (.ref fa) := by
      have e : (HandSHeadRun.topDef Gm.hR.prog 84).name = ("law" : PySem.Str) := by kernel_rfl
      rw [← e]
      exact hmg0
    exact ⟨K, KX, Gm.hat KX G hmg c⟩
