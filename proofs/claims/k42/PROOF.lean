import PyProof.Rows.All
import Wide.All
import OpenK.AllK
import Wide.FinOn
import Wide.Once
import KE.KStateDown
import HandS.Head0
import HandS.Head1
import HandS.Head2
import HandS.HeadEnd
import HandS.HeadHook4
import HandS.ForMost
import HandS.Walk
import HandS.ForExc
import HandS.Lambda
import HandS.CallSlots
import HandS.Style
import KE.DataEq
import HandS.Text
import HandS.Defaults
import HandS.IsInst
import PyProof.RulesMatch
import PyProof.EnumMake
import PyProof.Draws
import HandS.Flow
import HandS.Codes
import HandS.More
import HandS.Comp
import PyProof.CollectStr
import KE.SortCalls
import HandS.Words
import HandS.Exc
import HandS.AnyAll
import HandS.StrMore
import HandS.Nested
import HandS.Iter
import HandS.Conv
import HandS.ExcInit
import HandS.ExcField
import HandS.ExcIs
import HandS.HeadWalk
import PyProof.ExcBaseAll.LookupError
import PyProof.ExcBaseAll.OverflowError
import PyProof.ExcBaseAll.RuntimeError
import HandS.EndTab
import PyProof.ReprReads
import PyProof.Rows.NestShow
import PyProof.CallFns
import HandS.WrittenGet
import PyProof.StrOps2
import PyProof.ListMulRoad
import PyProof.ListStr
import KE.GoesEnumKw
import HandS.Star
import HandS.Slots
import HandS.HeadHook2
import KE.GoesMore
import HandS.Property
import HandS.MakeKwOnly
import OpenK.KOps
import HandS.SortInts
import HandS.SortKw
import KE.DatumOrd
import HandS.DictComp
import HandS.Dict
import HandS.List
import HandS.GenCall
import HandS.GenYield
import HandS.GenList
import HandS.SetFor
import HandS.NoneIn
import HandS.GenOver
import HandS.TupAny
import HandS.SetTxt0
import HandS.Strs
import PySem.Challenge.RW_holedlines_k42_whole_effects_by_what_may
set_option Elab.async false
section
set_option Elab.async false
set_option linter.all false
set_option autoImplicit false
set_option maxRecDepth 100000
set_option maxHeartbeats 0
namespace F
open PySem PySem.Spec PyProof.Rows L2
def sS (x : List Nat) : Str := ⟨x.toArray⟩
/-- the built-in class over which an own one stands -/
inductive XB | V | L | O | R
  deriving DecidableEq
def XB.nw : XB → String | .V => "ValueError.__new__" | .L => "LookupError.__new__" | .O => "OverflowError.__new__" | .R => "RuntimeError.__new__"
def XB.tl : XB → List Value
  | .V => [.type "ValueError", .type "Exception", .type "BaseException", .type "object"]
  | .L => [.type "LookupError", .type "Exception", .type "BaseException", .type "object"]
  | .O => [.type "OverflowError", .type "ArithmeticError", .type "Exception", .type "BaseException", .type "object"]
  | .R => [.type "RuntimeError", .type "Exception", .type "BaseException", .type "object"]
def slAd (K : PySem.W.Frag) (C : Addr) (f : Str) : Addr := match PySem.W.findIn K (.ref C) f with
  | some (some (.ref p)) => p
  | _ => 0
def top (i : Nat) : Stmt := PySem.Challenge.pw_holedlines_k42_whole_effects_by_what_may.main.body.getD i (.Pass ⟨0, 0, 0, 0⟩)
def c_BEGINS : List Nat := [62, 60, 94]
def c_DIGIT : List Nat := [100, 105, 103, 105, 116]
def c_END : List Nat := [61]
def c_KNOWN : List Nat := [97, 98, 99, 100, 101, 102, 103, 104, 105, 106, 107, 108, 109, 110, 111, 112, 113, 114, 115, 116, 117, 118, 119, 120, 121, 122, 43, 65, 66, 67, 68, 69, 70, 71, 72, 73, 74, 75, 76, 77, 42, 78, 79, 80, 81, 82, 83, 84, 85, 86, 87, 88, 89, 90, 48, 49, 50, 51, 52, 53, 54, 55, 56, 57, 44, 46, 58, 36, 35, 32, 33, 63, 45, 40, 41, 91, 93, 62, 60, 94, 61]
def c_PLAIN_CHARACTERS : List Nat := [32, 33, 35, 36, 40, 41, 42, 43, 44, 45, 46, 48, 49, 50, 51, 52, 53, 54, 55, 56, 57, 58, 63, 65, 66, 67, 68, 69, 70, 71, 72, 73, 74, 75, 76, 77, 78, 79, 80, 81, 82, 83, 84, 85, 86, 87, 88, 89, 90, 91, 93, 97, 98, 99, 100, 101, 102, 103, 104, 105, 106, 107, 108, 109, 110, 111, 112, 113, 114, 115, 116, 117, 118, 119, 120, 121, 122]
def c_STRONG : List Nat := [76, 82, 65]
def d__law_bag : He.DefD := ⟨("_law_bag", none), "_law_bag", "_law_bag", defArgs (top 31), defBody (top 31), defScope (top 31), [], []⟩
def d__law_take : He.DefD := ⟨("_law_take", none), "_law_take", "_law_take", defArgs (top 32), defBody (top 32), defScope (top 32), [], []⟩
def d__law_of : He.DefD := ⟨("_law_of", none), "_law_of", "_law_of", defArgs (top 33), defBody (top 33), defScope (top 33), [], []⟩
def d__law_character : He.DefD := ⟨("_law_character", none), "_law_character", "_law_character", defArgs (top 34), defBody (top 34), defScope (top 34), [], []⟩
def d__law_text : He.DefD := ⟨("_law_text", none), "_law_text", "_law_text", defArgs (top 35), defBody (top 35), defScope (top 35), [], []⟩
def d_first_unknown : He.DefD := ⟨("first_unknown", none), "first_unknown", "first_unknown", defArgs (top 11), defBody (top 11), defScope (top 11), [], []⟩
def d_overfull : He.DefD := ⟨("overfull", none), "overfull", "overfull", defArgs (top 10), defBody (top 10), defScope (top 10), [], []⟩
def d_first_fault : He.DefD := ⟨("first_fault", none), "first_fault", "first_fault", defArgs (top 12), defBody (top 12), defScope (top 12), [], []⟩
def d_need_text : He.DefD := ⟨("need_text", none), "need_text", "need_text", defArgs (top 13), defBody (top 13), defScope (top 13), [.str (sS c_KNOWN)], []⟩
def d_need_plain : He.DefD := ⟨("need_plain", none), "need_plain", "need_plain", defArgs (top 23), defBody (top 23), defScope (top 23), [], []⟩
def d_direction_of : He.DefD := ⟨("direction_of", none), "direction_of", "direction_of", defArgs (top 20), defBody (top 20), defScope (top 20), [], []⟩
def d_next_direction : He.DefD := ⟨("next_direction", none), "next_direction", "next_direction", defArgs (top 21), defBody (top 21), defScope (top 21), [], []⟩
def d_fate : He.DefD := ⟨("fate", none), "fate", "fate", defArgs (top 22), defBody (top 22), defScope (top 22), [], []⟩
def d_next_state : He.DefD := ⟨("next_state", none), "next_state", "next_state", defArgs (top 19), defBody (top 19), defScope (top 19), [], []⟩
def d_fate_within : He.DefD := ⟨("fate_within", none), "fate_within", "fate_within", defArgs (top 26), defBody (top 26), defScope (top 26), [], []⟩
def d_read_in : He.DefD := ⟨("read_in", none), "read_in", "read_in", defArgs (top 25), defBody (top 25), defScope (top 25), [], []⟩
def d_entry_of : He.DefD := ⟨("entry_of", none), "entry_of", "entry_of", defArgs (top 27), defBody (top 27), defScope (top 27), [], []⟩
def d_states : He.DefD := ⟨("states", none), "states", "states", defArgs (top 18), defBody (top 18), defScope (top 18), [], []⟩
def d_effect_of : He.DefD := ⟨("effect_of", none), "effect_of", "effect_of", defArgs (top 28), defBody (top 28), defScope (top 28), [], []⟩
def d_words_of : He.DefD := ⟨("words_of", none), "words_of", "words_of", defArgs (top 24), defBody (top 24), defScope (top 24), [], []⟩
def d_effect : He.DefD := ⟨("effect", none), "effect", "effect", defArgs (top 29), defBody (top 29), defScope (top 29), [], []⟩
def d__law_word : He.DefD := ⟨("_law_word", none), "_law_word", "_law_word", defArgs (top 36), defBody (top 36), defScope (top 36), [], []⟩
def d__law_next : He.DefD := ⟨("_law_next", none), "_law_next", "_law_next", defArgs (top 43), defBody (top 43), defScope (top 43), [], []⟩
def d__law_ahead : He.DefD := ⟨("_law_ahead", none), "_law_ahead", "_law_ahead", defArgs (top 41), defBody (top 41), defScope (top 41), [], []⟩
def d__law_sides : He.DefD := ⟨("_law_sides", none), "_law_sides", "_law_sides", defArgs (top 37), defBody (top 37), defScope (top 37), [], []⟩
def d__law_kinds : He.DefD := ⟨("_law_kinds", none), "_law_kinds", "_law_kinds", defArgs (top 38), defBody (top 38), defScope (top 38), [], []⟩
def d__law_way : He.DefD := ⟨("_law_way", none), "_law_way", "_law_way", defArgs (top 39), defBody (top 39), defScope (top 39), [], []⟩
def d__law_ways : He.DefD := ⟨("_law_ways", none), "_law_ways", "_law_ways", defArgs (top 40), defBody (top 40), defScope (top 40), [], []⟩
def d__law_shown : He.DefD := ⟨("_law_shown", none), "_law_shown", "_law_shown", defArgs (top 42), defBody (top 42), defScope (top 42), [], []⟩
def d__law_neutral : He.DefD := ⟨("_law_neutral", none), "_law_neutral", "_law_neutral", defArgs (top 44), defBody (top 44), defScope (top 44), [], []⟩
def d__law_waiting : He.DefD := ⟨("_law_waiting", none), "_law_waiting", "_law_waiting", defArgs (top 45), defBody (top 45), defScope (top 45), [], []⟩
def d_law : He.DefD := ⟨("law", none), "law", "law", defArgs (top 46), defBody (top 46), defScope (top 46), [], []⟩
def fn : List He.DefD := [d__law_bag, d__law_take, d__law_of, d__law_character, d__law_text, d_first_unknown, d_overfull, d_first_fault, d_need_text, d_need_plain, d_direction_of, d_next_direction, d_fate, d_next_state, d_fate_within, d_read_in, d_entry_of, d_states, d_effect_of, d_words_of, d_effect, d__law_word, d__law_next, d__law_ahead, d__law_sides, d__law_kinds, d__law_way, d__law_ways, d__law_shown, d__law_neutral, d__law_waiting, d_law]
def k_KINDS : List (List Nat × List Nat) := [([97], [76]), ([98], [76]), ([99], [76]), ([100], [76]), ([101], [76]), ([102], [76]), ([103], [76]), ([104], [76]), ([105], [76]), ([106], [76]), ([107], [76]), ([108], [76]), ([109], [76]), ([110], [76]), ([111], [76]), ([112], [76]), ([113], [76]), ([114], [76]), ([115], [76]), ([116], [76]), ([117], [76]), ([118], [76]), ([119], [76]), ([120], [76]), ([121], [76]), ([122], [76]), ([43], [76]), ([65], [82]), ([66], [82]), ([67], [82]), ([68], [82]), ([69], [82]), ([70], [82]), ([71], [82]), ([72], [82]), ([73], [82]), ([74], [82]), ([75], [82]), ([76], [82]), ([77], [82]), ([42], [82]), ([78], [65]), ([79], [65]), ([80], [65]), ([81], [65]), ([82], [65]), ([83], [65]), ([84], [65]), ([85], [65]), ([86], [65]), ([87], [65]), ([88], [65]), ([89], [65]), ([90], [65]), ([48], [68]), ([49], [68]), ([50], [68]), ([51], [68]), ([52], [68]), ([53], [68]), ([54], [68]), ([55], [68]), ([56], [68]), ([57], [68]), ([44], [83]), ([46], [83]), ([58], [83]), ([36], [84]), ([35], [84]), ([32], [78]), ([33], [78]), ([63], [78]), ([45], [78]), ([40], [78]), ([41], [78]), ([91], [78]), ([93], [78])]
def k_TAILS : List (List Nat) := [[], [100, 105, 103, 105, 116], [106, 111, 105, 110, 101, 100], [114, 117, 110], [115, 105, 103, 110]]
def fa : List He.Fa := [.glo "_law_bag", .glo "_law_take", .glo "_law_of", .glo "_law_character", .glo "_law_text", .glo "first_unknown", .glo "overfull", .glo "first_fault", .glo "need_text", .glo "need_plain", .glo "direction_of", .glo "next_direction", .glo "fate", .glo "next_state", .glo "fate_within", .glo "read_in", .glo "entry_of", .glo "states", .glo "effect_of", .glo "words_of", .glo "effect", .glo "_law_word", .glo "_law_next", .glo "_law_ahead", .glo "_law_sides", .glo "_law_kinds", .glo "_law_way", .glo "_law_ways", .glo "_law_shown", .glo "_law_neutral", .glo "_law_waiting", .glo "law", .free "abs", .free "enumerate", .free "int", .free "isinstance", .free "len", .free "max", .free "min", .free "range", .free "repr", .free "set", .free "sorted", .free "str", .free "zip", .str "BEGINS" (sS c_BEGINS), .str "DIGIT" (sS c_DIGIT), .str "END" (sS c_END), .glo "KINDS", .str "KNOWN" (sS c_KNOWN), .int "MOST_CHARACTERS" 400, .int "MOST_OPEN" 20, .str "PLAIN_CHARACTERS" (sS c_PLAIN_CHARACTERS), .str "STRONG" (sS c_STRONG), .glo "TAILS"]
def ts : List He.Tab := [(fun K => He.ga K "KINDS", (["a", "b", "c", "d", "e", "f", "g", "h", "i", "j", "k", "l", "m", "n", "o", "p", "q", "r", "s", "t"] : List Str) ++ (["u", "v", "w", "x", "y", "z", "+", "A", "B", "C", "D", "E", "F", "G", "H", "I", "J", "K", "L", "M"] : List Str) ++ (["*", "N", "O", "P", "Q", "R", "S", "T", "U", "V", "W", "X", "Y", "Z", "0", "1", "2", "3", "4", "5"] : List Str) ++ (["6", "7", "8", "9", ",", ".", ":", "$", "#", " ", "!", "?", "-", "(", ")", "[", "]"] : List Str))]
def tf : List He.Defn := []
def tfq : List (Str × Option Str) := []
def tbs (K : PySem.W.Frag) : List (Addr × Option Str) := tfq.map fun p => ((He.cT K (p.1, none)).2, p.2)
def exB (K : PySem.W.Frag) : Bool := (He.valsB K (He.ga K "KINDS") (k_KINDS.map fun p => (sS p.1, .str (sS p.2)))) && (He.tupB K "TAILS" (k_TAILS.map fun z => .str (sS z)))
end F
end
section
set_option Elab.async false
set_option linter.all false
set_option autoImplicit false
set_option maxRecDepth 100000
set_option maxHeartbeats 0

namespace F
open PySem PySem.Spec PyProof.Rows L2
abbrev RW : PySem.W.OpenRow := PySem.W.OpenLaw.row PySem.Challenge.rw_holedlines_k42_whole_effects_by_what_may
/-! the top's end is looked at through a list of addresses -/
def obsA (as : List Addr) (fa : List He.Fa) (fn : List He.DefD) (ts : List He.Tab) (tf : List He.Defn) (ex : PySem.W.Frag → Bool) (g : Addr → Option Obj) : He.AlX := (He.obsT fa fn ts (He.frT g as), ex (He.frT g as) && He.tabsB g tf (He.frT g as))
theorem sayA {as : List Addr} {fa : List He.Fa} {fn : List He.DefD} {ts : List He.Tab} {tf : List He.Defn} {ex : PySem.W.Frag → Bool} {w : World} {h : Heap} (e : obsA as fa fn ts tf ex h.get? = He.valX fn ts w) : He.SaysX fa fn ts tf ex w h (He.frT h.get? as) := by
  have e1 : He.obsT fa fn ts (He.frT h.get? as) = He.valT fn ts w := congrArg Prod.fst e
  have e2 : (ex (He.frT h.get? as) && He.tabsB h.get? tf (He.frT h.get? as)) = true := congrArg Prod.snd e
  obtain ⟨g1, g2⟩ := Bool.and_eq_true_iff.mp e2
  have each : ∀ p ∈ tf, PySem.W.codeHdIn (He.frT h.get? as) (He.cT (He.frT h.get? as) p).1 (He.cT (He.frT h.get? as) p).2 = true ∧ ∃ o, h.get? (He.cT (He.frT h.get? as) p).2 = some o ∧ He.emptyTab o = true := fun p hp => by
    obtain ⟨g3, g4⟩ := Bool.and_eq_true_iff.mp (List.all_eq_true.mp g2 p hp)
    refine ⟨g3, ?_⟩
    cases q : h.get? (He.cT (He.frT h.get? as) p).2 with
    | none => rw [q] at g4; cases g4
    | some o => rw [q] at g4; exact ⟨o, rfl, g4⟩
  exact ⟨e1, g1, fun p hp => (each p hp).1, fun p hp => by
    obtain ⟨_, o, q1, q2⟩ := each p hp
    exact He.frT_none q1 q2, fun p hp => by
    obtain ⟨_, o, q1, q2⟩ := each p hp
    rw [q1, He.emptyTab_eq q2]⟩
def hookA (as : List Addr) (fa : List He.Fa) (fn : List He.DefD) (ts : List He.Tab) (tf : List He.Defn) (ex : PySem.W.Frag → Bool) : PySem.W.Hook :=
  { α := He.AlX, obs := fun s => obsA as fa fn ts tf ex s.heap.get?, val := fun w => He.valX fn ts w, says := fun w h => ∃ K : PySem.W.Frag, K.In h ∧ He.SaysX fa fn ts tf ex w h K, of := fun _ _ e => ⟨_, He.frT_in, sayA e⟩,
    keeps := fun _ _ _ ⟨K, hK, c⟩ k => ⟨K, PySem.W.Frag.In.keeps hK k, ⟨c.t, c.more, c.hd, c.out, fun p hp => k _ _ (c.empty p hp)⟩⟩ }
theorem obsA_eq {as : List Addr} {fa : List He.Fa} {fn : List He.DefD} {ts : List He.Tab} {tf : List He.Defn} {ex : PySem.W.Frag → Bool} {g : Addr → Option Obj} {s : Shared} (h : ∀ a, g a = s.heap.get? a) : obsA as fa fn ts tf ex g = (hookA as fa fn ts tf ex).obs s := by
  have e : g = s.heap.get? := funext h
  subst e
  rfl

def asL : List Addr := [3, 6, 4, 31, 35, 46, 51, 56, 62, 63, 68, 73, 80, 87, 94, 101, 106, 113, 120, 127, 132, 139, 146, 153, 160, 167, 172, 179, 186, 191, 198, 203, 210, 217, 222, 229, 236, 241, 0, 30, 45, 50, 55, 61, 57, 67, 72, 79, 86, 93, 100, 105, 112, 119, 126, 131, 138, 145, 152, 159, 166, 171, 178, 185, 190, 197, 202, 209, 216, 221, 228, 235, 240, 28, 29, 32, 40, 41, 42, 43, 44, 47, 48, 49, 52, 53, 54, 58, 59, 60, 64, 65, 66, 69, 70, 71, 74, 75, 76, 77, 78, 81, 82, 83, 84, 85, 88, 89, 90, 91, 92, 95, 96, 97, 98, 99, 102, 103, 104, 107, 108, 109, 110, 111, 114, 115, 116, 117, 118, 121, 122, 123, 124, 125, 128, 129, 130, 133, 134, 135, 136, 137, 140, 141, 142, 143, 144, 147, 148, 149, 150, 151, 154, 155, 156, 157, 158, 161, 162, 163, 164, 165, 168, 169, 170, 173, 174, 175, 176, 177, 180, 181, 182, 183, 184, 187, 188, 189, 192, 193, 194, 195, 196, 199, 200, 201, 204, 205, 206, 207, 208, 211, 212, 213, 214, 215, 218, 219, 220, 223, 224, 225, 226, 227, 230, 231, 232, 233, 234, 237, 238, 239, 27, 22, 23, 24, 25, 26]
abbrev hk : PySem.W.Hook := hookA asL fa fn ts tf exB
def ob (s : PySem.W.SharedT) : He.AlX := obsA asL fa fn ts tf exB (HandSHeadRun.getT s)
theorem ob_eq (s : PySem.W.SharedT) : ob s = hk.obs s.abs := obsA_eq (HandSHeadRun.getT_eq s)
def names : List Str := (["BadText", "MOST_CHARACTERS", "MOST_OPEN", "BEGINS", "END", "STRONG", "KINDS", "KNOWN", "overfull", "first_unknown", "first_fault", "need_text", "TAILS", "PLAIN_CHARACTERS", "DIGIT", "states", "next_state", "direction_of", "next_direction", "fate"] : List Str) ++ (["need_plain", "words_of", "read_in", "fate_within", "entry_of", "effect_of", "effect", "_law_bag", "_law_take", "_law_of", "_law_character", "_law_text", "_law_word", "_law_sides", "_law_kinds", "_law_way", "_law_ways", "_law_ahead", "_law_shown", "_law_next"] : List Str) ++ (["_law_neutral", "_law_waiting"] : List Str)
open HandSHeadRun PySem.W
theorem map3 {α β γ δ ε : Type} (x : Option α) (f : α → β) (g : α → γ) (h : α → δ × ε) (a : β) (b : γ) (c : δ × ε) (hA : x.map (fun s => (f s, g s)) = some (a, b)) (hB : x.map (fun s => (h s).1) = some c.1) (hC : x.map (fun s => (h s).2) = some c.2) : x.map (fun s => (f s, g s, h s)) = some (a, b, c) := by
  cases x with
  | none => cases hB
  | some s =>
    have e1 := Option.some.inj hA
    have e2 : (h s).1 = c.1 := Option.some.inj hB
    have e3 : (h s).2 = c.2 := Option.some.inj hC
    have e4 : f s = a := congrArg Prod.fst e1
    have e5 : g s = b := congrArg Prod.snd e1
    have e6 : h s = c := Prod.ext e2 e3
    show some (f s, g s, h s) = _
    rw [e4, e5, e6]
theorem runEq3 (r : PySem.W.OpenRow) (q : Program) (as : List Addr) (fa : List He.Fa) (fn : List He.DefD) (ts : List He.Tab) (tf : List He.Defn) (ex : PySem.W.Frag → Bool) (M : Nat) (loose : List Str) (w : World)
    (hA : ∀ os : OsState, (HandSHeadRun.endF (stepQ (denQ tabQ) r.prog w) M r.prog w os).map (fun s => (looksF r.prog (boot_heap w.params) s.abs, seenQ q loose (importedModules r.prog.main.body) (fun s => xlAt q [] s && recOk r.toRowW.records s) s.abs)) = some (true, openGood q loose))
    (hB : ∀ os : OsState, (HandSHeadRun.endF (stepQ (denQ tabQ) r.prog w) M r.prog w os).map (fun s => (obsA as fa fn ts tf ex (HandSHeadRun.getT s)).1) = some (He.valX fn ts w).1)
    (hC : ∀ os : OsState, (HandSHeadRun.endF (stepQ (denQ tabQ) r.prog w) M r.prog w os).map (fun s => (obsA as fa fn ts tf ex (HandSHeadRun.getT s)).2) = some (He.valX fn ts w).2) :
    HandSHeadRun.RunEq r q (hookA as fa fn ts tf ex) (fun s => obsA as fa fn ts tf ex (HandSHeadRun.getT s)) M loose w := fun os => map3 _ _ _ _ _ _ _ (hA os) (hB os) (hC os)
noncomputable abbrev end_ (W : World) (os : OsState) : Option PySem.W.SharedT := HandSHeadRun.endF (stepQ (denQ tabQ) RW.prog W) 8000 RW.prog W os
theorem hrun_nA (w : World) : ∀ os : OsState, (end_ (w.withFollow "special-get-raises" false) os).map (fun s => (looksF RW.prog (boot_heap (w.withFollow "special-get-raises" false).params) s.abs, seenQ (PySem.W.view RW.prog [46]) names (importedModules RW.prog.main.body) (fun s => xlAt (PySem.W.view RW.prog [46]) [] s && recOk RW.toRowW.records s) s.abs)) = some (true, openGood (PySem.W.view RW.prog [46]) names) := fun os => by kernel_rfl
theorem hrun_nB (w : World) : ∀ os : OsState, (end_ (w.withFollow "special-get-raises" false) os).map (fun s => (obsA asL fa fn ts tf exB (HandSHeadRun.getT s)).1) = some (He.valX fn ts (w.withFollow "special-get-raises" false)).1 := fun os => by kernel_rfl
theorem hrun_nC (w : World) : ∀ os : OsState, (end_ (w.withFollow "special-get-raises" false) os).map (fun s => (obsA asL fa fn ts tf exB (HandSHeadRun.getT s)).2) = some (He.valX fn ts (w.withFollow "special-get-raises" false)).2 := fun os => by kernel_rfl
theorem hrun_n (w : World) : HandSHeadRun.RunEq RW (PySem.W.view RW.prog [46]) hk ob 8000 names (w.withFollow "special-get-raises" false) := runEq3 RW (PySem.W.view RW.prog [46]) asL fa fn ts tf exB 8000 names (w.withFollow "special-get-raises" false) (hrun_nA w) (hrun_nB w) (hrun_nC w)
theorem hrun_yA (w : World) : ∀ os : OsState, (end_ (w.withFollow "special-get-raises" true) os).map (fun s => (looksF RW.prog (boot_heap (w.withFollow "special-get-raises" true).params) s.abs, seenQ (PySem.W.view RW.prog [46]) names (importedModules RW.prog.main.body) (fun s => xlAt (PySem.W.view RW.prog [46]) [] s && recOk RW.toRowW.records s) s.abs)) = some (true, openGood (PySem.W.view RW.prog [46]) names) := fun os => by kernel_rfl
theorem hrun_yB (w : World) : ∀ os : OsState, (end_ (w.withFollow "special-get-raises" true) os).map (fun s => (obsA asL fa fn ts tf exB (HandSHeadRun.getT s)).1) = some (He.valX fn ts (w.withFollow "special-get-raises" true)).1 := fun os => by kernel_rfl
theorem hrun_yC (w : World) : ∀ os : OsState, (end_ (w.withFollow "special-get-raises" true) os).map (fun s => (obsA asL fa fn ts tf exB (HandSHeadRun.getT s)).2) = some (He.valX fn ts (w.withFollow "special-get-raises" true)).2 := fun os => by kernel_rfl
theorem hrun_y (w : World) : HandSHeadRun.RunEq RW (PySem.W.view RW.prog [46]) hk ob 8000 names (w.withFollow "special-get-raises" true) := runEq3 RW (PySem.W.view RW.prog [46]) asL fa fn ts tf exB 8000 names (w.withFollow "special-get-raises" true) (hrun_yA w) (hrun_yB w) (hrun_yC w)

theorem run (w : World) : HandSHeadRun.RunEq RW (PySem.W.view RW.prog [46]) hk ob 8000 names w :=
  PySem.W.byRow2 "special-get-raises" (P := fun w => HandSHeadRun.RunEq RW (PySem.W.view RW.prog [46]) hk ob 8000 names w) hrun_n hrun_y w
end F
end
section
set_option linter.all false
/-! F layer, part A: python values as plain data, bodies of defs as compositions of plain functions. Core Lean alone. -/
namespace F
inductive Ky where
  | i (n : Int) | s (x : List Nat)
  deriving DecidableEq
/-- a value without addresses: what can no longer change -/
inductive D where
  | non | bl (b : Bool) | int (i : Int) | str (x : List Nat)
  | tup (l : List D) | lst (l : List D) | dct (l : List (Ky × D)) | obj (c : Nat) (l : List D)
  /-- a thing of the kind k that d describes; what it is in memory is told elsewhere -/
  | ex (k : Nat) (d : D)
/-- what a name holds: shared data, or a thing of its own (a list, a dict, an instance) that it alone holds -/
inductive O where
  | sh (d : D) | fl (l : List D) | fd (l : List (Ky × D)) | fo (c : Nat) (l : List O)
abbrev Env := List (Option O)
/-- an expression's answer: data, a name's thing, a new thing -/
inductive R where
  | d (x : D) | sl (i : Nat) | ow (o : O)
inductive Rs (α : Type) where
  | ok (a : α) (e : Env) | ex (c : Nat) (p : D) (e : Env) | bad
abbrev M (α : Type) := Env → Rs α
/-- a statement's answer -/
inductive SR where
  | nx (e : Env) | rt (o : O) (e : Env) | bk (e : Env) | ct (e : Env) | ex (c : Nat) (p : D) (e : Env) | bad
abbrev MS := Env → SR
/-- a def's answer: the result, the arguments' things behind the call -/
inductive FR where
  | rt (o : O) (os : List O) | ex (c : Nat) (p : D) (os : List O) | bad
abbrev Fn := List O → FR
def lim : Nat := 16777216
mutual
def O.frz : O → D
  | .sh d => d
  | .fl l => .lst l
  | .fd l => .dct l
  | .fo c l => .obj c (frzs l)
def frzs : List O → List D
  | [] => []
  | o :: os => o.frz :: frzs os
end
def slot (e : Env) (i : Nat) : Option O := match e[i]? with
  | some (some o) => some o
  | _ => none
/-- a thing read off (an instance's fields are read one by one) -/
def O.pk : O → Option D
  | .sh d => some d
  | .fl l => some (.lst l)
  | .fd l => some (.dct l)
  | .fo _ _ => none
/-- an answer read off, held no longer than an operation -/
def peek : R → Env → Option D
  | .d x, _ => some x
  | .sl i, e => (slot e i).bind O.pk
  | .ow o, _ => o.pk
/-- an answer that is kept from now on: it can't be changed any more -/
def leak : R → M D
  | .d x, e => .ok x e
  | .sl i, e => match slot e i with
    | some o => .ok o.frz (e.set i (some (.sh o.frz)))
    | none => .bad
  | .ow o, e => .ok o.frz e
def nrm : R → R
  | .ow o => .d o.frz
  | r => r
/-! ### expressions -/
/-- places -/
def ixI (n : Nat) (i : Int) : Option Nat := if 0 ≤ i then (if i < n then some i.toNat else none) else if -(n : Int) ≤ i then some (i + n).toNat else none
def getI {α : Type} (l : List α) (i : Int) : Option α := (ixI l.length i).bind fun j => l[j]?
def mBad {α : Type} : M α := fun _ => .bad
def mVar (i : Nat) : M R := fun e => match slot e i with
  | some _ => .ok (.sl i) e
  | none => .bad
def mC (d : D) : M R := fun e => .ok (.d d) e
def andThen {α β : Type} (r : Rs α) (f : α → Env → Rs β) : Rs β := match r with
  | .ok a e => f a e
  | .ex c p e => .ex c p e
  | .bad => .bad
def ofO {α : Type} (x : Option α) (f : α → Rs β) : Rs β := match x with
  | some a => f a
  | none => .bad
/-- one operand, two operands: read off, a value out -/
def mOp1 (f : D → Option D) (a : M R) : M R := fun e => andThen (a e) fun r e1 => ofO (peek r e1) fun x => ofO (f x) fun z => .ok (.d z) e1
def mOp2 (f : D → D → Option D) (a b : M R) : M R := fun e => andThen (a e) fun r e1 => andThen (b e1) fun q e2 => ofO (peek (nrm r) e2) fun x => ofO (peek q e2) fun y => ofO (f x y) fun z => .ok (.d z) e2
/-- the same, a new list out -/
def mOl1 (f : D → Option (List D)) (a : M R) : M R := fun e => andThen (a e) fun r e1 => ofO (peek r e1) fun x => ofO (f x) fun z => .ok (.ow (.fl z)) e1
def mOl2 (f : D → D → Option (List D)) (a b : M R) : M R := fun e => andThen (a e) fun r e1 => andThen (b e1) fun q e2 => ofO (peek (nrm r) e2) fun x => ofO (peek q e2) fun y => ofO (f x y) fun z => .ok (.ow (.fl z)) e2
/-- several, each kept -/
def mLks : List (M R) → M (List D)
  | [], e => .ok [] e
  | m :: ms, e => andThen (m e) fun r e1 => andThen (leak r e1) fun d e2 => andThen (mLks ms e2) fun ds e3 => .ok (d :: ds) e3
def mTup (ms : List (M R)) : M R := fun e => andThen (mLks ms e) fun ds e1 => if ds.length ≤ lim then .ok (.d (.tup ds)) e1 else .bad
def mLst (ms : List (M R)) : M R := fun e => andThen (mLks ms e) fun ds e1 => if ds.length ≤ lim then .ok (.ow (.fl ds)) e1 else .bad
/-- a text's method with one argument, without -/
def mSm1 (f : List Nat → D → Option D) (o a : M R) : M R := fun e => andThen (o e) fun r e1 => match peek r e1 with
  | some (.str x) => andThen (a e1) fun q e2 => ofO (peek q e2) fun y => ofO (f x y) fun z => .ok (.d z) e2
  | _ => .bad
def mSm0 (f : List Nat → Option D) (o : M R) : M R := fun e => andThen (o e) fun r e1 => match peek r e1 with
  | some (.str x) => ofO (f x) fun z => .ok (.d z) e1
  | _ => .bad
/-- a part of a slice -/
def mPt : Option (M R) → M (Option Int)
  | none, e => .ok none e
  | some m, e => andThen (m e) fun r e1 => match peek r e1 with
    | some (.int i) => .ok (some i) e1
    | _ => .bad
/-- xs[lo:hi]: a value; a new list -/
def mSl (f : D → Option Int → Option Int → Option D) (a : M R) (lo hi : Option (M R)) : M R := fun e => andThen (a e) fun r e1 => andThen (mPt lo e1) fun l e2 => andThen (mPt hi e2) fun h e3 => ofO (peek (nrm r) e3) fun x => ofO (f x l h) fun z => .ok (.d z) e3
def mSlL (f : D → Option Int → Option Int → Option (List D)) (a : M R) (lo hi : Option (M R)) : M R := fun e => andThen (a e) fun r e1 => andThen (mPt lo e1) fun l e2 => andThen (mPt hi e2) fun h e3 => ofO (peek (nrm r) e3) fun x => ofO (f x l h) fun z => .ok (.ow (.fl z)) e3
/-- {k: v, ..}, the keys written and different -/
def mDvs : List (Ky × M R) → M (List (Ky × D))
  | [], e => .ok [] e
  | (k, m) :: ms, e => andThen (m e) fun r e1 => andThen (leak r e1) fun d e2 => andThen (mDvs ms e2) fun ds e3 => .ok ((k, d) :: ds) e3
def mDct (kms : List (Ky × M R)) : M R := fun e => andThen (mDvs kms e) fun l e1 => .ok (.ow (.fd l)) e1
/-- several, read off at the end (none of them a name's thing that a later one changes) -/
def mRs : List (M R) → M (List R)
  | [], e => .ok [] e
  | m :: ms, e => andThen (m e) fun r e1 => andThen (mRs ms e1) fun rs e2 => .ok (nrm r :: rs) e2
def peeks : List R → Env → Option (List D)
  | [], _ => some []
  | r :: rs, e => match peek r e, peeks rs e with
    | some x, some xs => some (x :: xs)
    | _, _ => none
/-- a built-in by its values: a value out; a new list out -/
def mBi (f : List D → Option D) (ms : List (M R)) : M R := fun e => andThen (mRs ms e) fun rs e1 => ofO (peeks rs e1) fun xs => ofO (f xs) fun z => .ok (.d z) e1
def mBl (f : List D → Option (List D)) (ms : List (M R)) : M R := fun e => andThen (mRs ms e) fun rs e1 => ofO (peeks rs e1) fun xs => ofO (f xs) fun z => .ok (.ow (.fl z)) e1
/-- xs.append(e) and its like, xs a name's own list: the answer, the list behind it; the argument is kept -/
def mMut1 (i : Nat) (f : List D → D → Option (D × List D)) (a : M R) : M R := fun e => match slot e i with
  | some (.fl _) => andThen (a e) fun r e1 => andThen (leak r e1) fun d e2 => (match slot e2 i with
    | some (.fl l) => ofO (f l d) fun p => .ok (.d p.1) (e2.set i (some (.fl p.2)))
    | _ => .bad)
  | _ => .bad
def mMut0 (i : Nat) (f : List D → Option (D × List D)) : M R := fun e => match slot e i with
  | some (.fl l) => ofO (f l) fun p => .ok (.d p.1) (e.set i (some (.fl p.2)))
  | _ => .bad
def appF (l : List D) (d : D) : Option (D × List D) := if l.length < lim then some (.non, l ++ [d]) else none
/-! ### tests -/
def truD : D → Option Bool
  | .non => some false
  | .bl b => some b
  | .int i => some (i != 0)
  | .str x => some (!x.isEmpty)
  | .lst l => some (!l.isEmpty)
  | .tup l => some (!l.isEmpty)
  | _ => none
def mTru (a : M R) : M Bool := fun e => andThen (a e) fun r e1 => ofO (peek r e1) fun x => ofO (truD x) fun b => .ok b e1
/-- a test whose value is a bool -/
def mTB (a : M R) : M Bool := fun e => andThen (a e) fun r e1 => match peek r e1 with
  | some (.bl b) => .ok b e1
  | _ => .bad
def mAnd (a b : M Bool) : M Bool := fun e => andThen (a e) fun x e1 => if x = true then b e1 else .ok false e1
def mOr (a b : M Bool) : M Bool := fun e => andThen (a e) fun x e1 => if x = true then .ok true e1 else b e1
def mNot (a : M Bool) : M Bool := fun e => andThen (a e) fun x e1 => .ok (!x) e1
def mIf {α : Type} (c : M Bool) (a b : M α) : M α := fun e => andThen (c e) fun x e1 => if x = true then a e1 else b e1
/-- and, or, not as values: all but the last are bools -/
def mAndV (a b : M R) : M R := fun e => andThen (a e) fun r e1 => match peek r e1 with
  | some (.bl x) => if x = true then b e1 else .ok (.d (.bl false)) e1
  | _ => .bad
def mOrV (a b : M R) : M R := fun e => andThen (a e) fun r e1 => match peek r e1 with
  | some (.bl x) => if x = true then .ok (.d (.bl true)) e1 else b e1
  | _ => .bad
def mNotV (a : M R) : M R := fun e => andThen (a e) fun r e1 => match peek r e1 with
  | some (.bl x) => .ok (.d (.bl (!x))) e1
  | _ => .bad
/-! ### calls of defs -/
/-- an argument: kept (lk), or lent: the name's own thing, changed and given back (bo) -/
inductive Md where
  | lk | bo
  deriving DecidableEq
def asArg : Md → R → Env → Option (O × Env)
  | .bo, .sl i, e => (match slot e i with
    | some o => some (o, e.set i none)
    | none => none)
  | _, r, e => (match leak r e with
    | .ok d e1 => some (.sh d, e1)
    | _ => none)
def asArgs : List Md → List R → Env → Option (List O × Env)
  | _, [], e => some ([], e)
  | ms, r :: rs, e => match asArg (ms.headD .lk) r e with
    | some (o, e1) => (match asArgs ms.tail rs e1 with
      | some (os, e2) => some (o :: os, e2)
      | none => none)
    | none => none
/-- what was lent comes back -/
def back : List Md → List R → List O → Env → Env
  | ms, r :: rs, o :: os, e => (match ms.headD .lk, r with
    | .bo, .sl i => back ms.tail rs os (e.set i (some o))
    | _, _ => back ms.tail rs os e)
  | _, _, _, e => e
def ofRes (o : O) : R := match o with
  | .sh d => .d d
  | o => .ow o
/-- behind the call: what was handed as shared data is as it was -/
def mergeO : List O → List O → List O
  | .sh d :: os, _ :: os' => .sh d :: mergeO os os'
  | _ :: os, o' :: os' => o' :: mergeO os os'
  | _, _ => []
def mCall (F : Fn) (md : List Md) (dfl : List D) (ms : List (M R)) : M R := fun e => andThen (mRs ms e) fun rs e1 => match asArgs md rs e1 with
  | some (os, e2) => (match F (os ++ dfl.map O.sh) with
    | .rt o os' => .ok (ofRes o) (back md rs (mergeO (os ++ dfl.map O.sh) os') e2)
    | .ex c p os' => .ex c p (back md rs (mergeO (os ++ dfl.map O.sh) os') e2)
    | .bad => .bad)
  | none => .bad
/-! ### statements -/
def sBad : MS := fun _ => .bad
def sPass : MS := fun e => .nx e
def sSeq (a b : MS) : MS := fun e => match a e with
  | .nx e1 => b e1
  | r => r
def sOf {α : Type} (r : Rs α) (f : α → Env → SR) : SR := match r with
  | .ok a e => f a e
  | .ex c p e => .ex c p e
  | .bad => .bad
def sBrk : MS := fun e => .bk e
def sCnt : MS := fun e => .ct e
def sExp (a : M R) : MS := fun e => sOf (a e) fun _ e1 => .nx e1
/-- the result: a name's thing goes out with it -/
def sRet (a : M R) : MS := fun e => sOf (a e) fun r e1 => match r with
  | .d x => .rt (.sh x) e1
  | .ow o => .rt o e1
  | .sl i => (match slot e1 i with
    | some (.sh d) => .rt (.sh d) e1
    | some o => .rt o (e1.set i none)
    | none => .bad)
def sRetN : MS := fun e => .rt (.sh .non) e
def sIf (c : M Bool) (a b : MS) : MS := fun e => sOf (c e) fun x e1 => if x = true then a e1 else b e1
/-- x = e -/
def setR (i : Nat) (r : R) (e1 : Env) : SR := match r with
  | .ow o => .nx (e1.set i (some o))
  | r => sOf (leak r e1) fun d e2 => .nx (e2.set i (some (.sh d)))
def sSet (i : Nat) (a : M R) : MS := fun e => sOf (a e) fun r e1 => setR i r e1
/-- a target -/
inductive Tg where
  | nm (i : Nat) | tp (l : List Tg)
mutual
def Tg.put : Tg → D → Env → Option Env
  | .nm i, d, e => some (e.set i (some (.sh d)))
  | .tp ts, .tup ds, e => putAll ts ds e
  | .tp _, _, _ => none
def putAll : List Tg → List D → Env → Option Env
  | [], [], e => some e
  | t :: ts, d :: ds, e => match t.put d e with
    | some e1 => putAll ts ds e1
    | none => none
  | _, _, _ => none
end
/-- several answers, new things left as they are -/
def mOs : List (M R) → M (List O)
  | [], e => .ok [] e
  | m :: ms, e => andThen (m e) fun r e1 => match r with
    | .ow o => andThen (mOs ms e1) fun os e2 => .ok (o :: os) e2
    | r => andThen (leak r e1) fun d e2 => andThen (mOs ms e2) fun os e3 => .ok (.sh d :: os) e3
def setAll : List Nat → List O → Env → Option Env
  | [], [], e => some e
  | i :: is, o :: os, e => setAll is os (e.set i (some o))
  | _, _, _ => none
def ofOS {α : Type} (x : Option α) (f : α → SR) : SR := match x with
  | some a => f a
  | none => .bad
/-- a, b = e -/
def sUnp (t : Tg) (a : M R) : MS := fun e => sOf (a e) fun r e1 => sOf (leak r e1) fun d e2 => ofOS (t.put d e2) .nx
/-- x, y = a, b -/
def sPar (is : List Nat) (ms : List (M R)) : MS := fun e => sOf (mOs ms e) fun os e1 => ofOS (setAll is os e1) .nx
/-- x op= e -/
def sAug (i : Nat) (f : D → D → Option D) (a : M R) : MS := fun e => match slot e i with
  | some _ => sOf (a e) fun r e1 => ofOS (peek (.sl i) e1) fun x => ofOS (peek r e1) fun y => ofOS (f x y) fun z => .nx (e1.set i (some (.sh z)))
  | none => .bad
/-- xs[k] = v, xs a name's own list -/
def sSto (i : Nat) (k v : M R) : MS := fun e => sOf (v e) fun r e1 => sOf (leak r e1) fun d e2 => match slot e2 i with
  | some _ => sOf (k e2) fun q e3 => ofOS (peek q e3) fun j => (match slot e3 i, j with
    | some (.fl l), .int j => (match ixI l.length j with
      | some n => .nx (e3.set i (some (.fl (l.set n d))))
      | none => .bad)
    | _, _ => .bad)
  | none => .bad
/-- a loop over items that stand -/
def forL (t : Tg) (body : MS) : List D → MS
  | [], e => .nx e
  | d :: ds, e => match t.put d e with
    | some e1 => (match body e1 with
      | .nx e2 => forL t body ds e2
      | .ct e2 => forL t body ds e2
      | .bk e2 => .nx e2
      | r => r)
    | none => .bad
def sFor (t : Tg) (it : M (List D)) (body : MS) : MS := fun e => sOf (it e) fun ds e1 => forL t body ds e1
/-- a while, at most so many turns -/
def whL (c : M Bool) (body : MS) : Nat → MS
  | 0, _ => .bad
  | n + 1, e => match c e with
    | .ok true e1 => (match body e1 with
      | .nx e2 => whL c body n e2
      | .ct e2 => whL c body n e2
      | .bk e2 => .nx e2
      | r => r)
    | .ok false e1 => .nx e1
    | .ex k p e1 => .ex k p e1
    | .bad => .bad
def sWhile (n : Nat) (c : M Bool) (body : MS) : MS := whL c body n
/-! ### what is walked: items kept (they stand while the loop runs) -/
def mIt (f : D → Option (List D)) (a : M R) : M (List D) := fun e => andThen (a e) fun r e1 => andThen (leak r e1) fun d e2 => ofO (f d) fun l => .ok l e2
/-! ### comprehensions: own slots are wiped ahead of each turn; t: the target, c: the tests, v: the element -/
def wipeE : Env → List Nat → Env
  | e, [] => e
  | e, i :: is => wipeE (e.set i none) is
/-- behind it the own slots hold what they held, if this was shared data -/
def unwipe (e0 : Env) : Env → List Nat → Env
  | e, [] => e
  | e, i :: is => match slot e0 i with
    | some (.sh d) => unwipe e0 (e.set i (some (.sh d))) is
    | _ => unwipe e0 e is
def lcL (own : List Nat) (t : Tg) (c : M Bool) (v : M R) : List D → List D → Env → Rs (List D)
  | [], acc, e => .ok acc e
  | d :: ds, acc, e => match t.put d e with
    | some e1 => (match c e1 with
      | .ok true e2 => (match v e2 with
        | .ok r e3 => (match leak r e3 with
          | .ok x e4 => lcL own t c v ds (acc ++ [x]) (wipeE e4 own)
          | _ => .bad)
        | _ => .bad)
      | .ok false e2 => lcL own t c v ds acc (wipeE e2 own)
      | _ => .bad)
    | none => .bad
def lcEnd (e1 : Env) (own : List Nat) : Rs (List D) → Rs R
  | .ok l e2 => .ok (.ow (.fl l)) (unwipe e1 e2 own)
  | _ => .bad
def mLc (own : List Nat) (t : Tg) (it : M (List D)) (c : M Bool) (v : M R) : M R := fun e => andThen (it e) fun ds e1 => if ds.length ≤ lim then lcEnd e1 own (lcL own t c v ds [] (wipeE e1 own)) else .bad
def mYes : M Bool := fun e => .ok true e
/-! ### match on texts -/
/-- the cases: texts (none: any subject), body -/
def mtL : List (Option (List (List Nat)) × MS) → List Nat → MS
  | [], _, e => .nx e
  | (p, b) :: r, x, e => if (match p with | none => true | some l => l.contains x) = true then b e else mtL r x e
def sMatch (a : M R) (cs : List (Option (List (List Nat)) × MS)) : MS := fun e => sOf (a e) fun r e1 => match peek r e1 with
  | some (.str x) => mtL cs x e1
  | _ => .bad
/-! ### a def -/
def allO : List (Option O) → Option (List O)
  | [] => some []
  | some o :: r => (allO r).map (o :: ·)
  | none :: _ => none
def endF (n : Nat) (e : Env) : Option (List O) := allO (e.take n)
/-- things that are lent stand at the parameters of pr alone -/
def gdO (pr : Nat → Bool) : Nat → List O → Bool
  | _, [] => true
  | i, .sh _ :: r => gdO pr (i + 1) r
  | i, _ :: r => pr i && gdO pr (i + 1) r
def finR (n : Nat) : SR → FR
  | .nx e => (match endF n e with
    | some os' => .rt (.sh .non) os'
    | none => .bad)
  | .rt o e => (match endF n e with
    | some os' => .rt o os'
    | none => .bad)
  | .ex c p e => (match endF n e with
    | some os' => .ex c p os'
    | none => .bad)
  | _ => .bad
def runF (pr : Nat → Bool) (n k : Nat) (m : MS) : Fn := fun os => if gdO pr 0 os = true then finR n (m (os.map some ++ List.replicate k none)) else .bad
/-! ### operations on data -/
def mulOk (i j : Int) : Bool := (decide (-18446744073709551616 < i) && decide (i < 18446744073709551616)) || (decide (-18446744073709551616 < j) && decide (j < 18446744073709551616))
def addD : D → D → Option D
  | .int i, .int j => some (.int (i + j))
  | .str x, .str y => if x.length + y.length ≤ lim then some (.str (x ++ y)) else none
  | _, _ => none
def subD : D → D → Option D
  | .int i, .int j => some (.int (i - j))
  | _, _ => none
def mulD : D → D → Option D
  | .int i, .int j => if mulOk i j = true then some (.int (i * j)) else none
  | _, _ => none
def divD : D → D → Option D
  | .int i, .int j => if 0 < j ∧ j < 1073741824 then some (.int (i / j)) else none
  | _, _ => none
def modD : D → D → Option D
  | .int i, .int j => if 0 < j then some (.int (i % j)) else none
  | _, _ => none
def powD : D → D → Option D
  | .int i, .int j => if 0 ≤ j ∧ j ≤ 1000000 ∧ i.natAbs < 18446744073709551616 then some (.int (i ^ j.toNat)) else none
  | _, _ => none
def negD : D → Option D
  | .int i => some (.int (-i))
  | _ => none
/-! equality: plain data -/
mutual
def D.pl : D → Bool
  | .non | .bl _ | .int _ | .str _ => true
  | .tup l | .lst l => pls l
  | .dct _ | .obj _ _ | .ex _ _ => false
def pls : List D → Bool
  | [] => true
  | d :: ds => d.pl && pls ds
end
mutual
def D.dp : D → Nat
  | .tup l | .lst l => dps l + 1
  | _ => 0
def dps : List D → Nat
  | [] => 0
  | d :: ds => max d.dp (dps ds)
end
mutual
def eqB : D → D → Bool
  | .non, .non => true
  | .bl a, .bl b => a == b
  | .bl a, .int j => (if a then 1 else 0) == j
  | .int i, .bl b => i == (if b then 1 else 0)
  | .int i, .int j => i == j
  | .str x, .str y => x == y
  | .lst xs, .lst ys => eqBs xs ys
  | .tup xs, .tup ys => eqBs xs ys
  | _, _ => false
def eqBs : List D → List D → Bool
  | [], [] => true
  | x :: xs, y :: ys => eqB x y && eqBs xs ys
  | _, _ => false
end
def cmpOk (a b : D) : Bool := a.pl && b.pl && (decide (a.dp ≤ 50) || decide (b.dp ≤ 50))
def eqD (a b : D) : Option D := if cmpOk a b = true then some (.bl (eqB a b)) else none
def neD (a b : D) : Option D := if cmpOk a b = true then some (.bl (!eqB a b)) else none
def ltD : D → D → Option D
  | .int i, .int j => some (.bl (decide (i < j)))
  | .str x, .str y => some (.bl (decide (x < y)))
  | _, _ => none
def gtD : D → D → Option D
  | .int i, .int j => some (.bl (decide (j < i)))
  | .str x, .str y => some (.bl (decide (y < x)))
  | _, _ => none
def geD : D → D → Option D
  | .int i, .int j => some (.bl (decide (j ≤ i)))
  | _, _ => none
def isNone : D → Bool
  | .non => true
  | _ => false
def isD : D → D → Option D
  | a, .non => some (.bl (isNone a))
  | _, _ => none
def isntD : D → D → Option D
  | a, .non => some (.bl (!isNone a))
  | _, _ => none
/-- x += y of ints -/
def addI : D → D → Option D
  | .int i, .int j => some (.int (i + j))
  | _, _ => none
/-- x in y: a sign in a text; among the items of a list, a tuple -/
def inB : D → D → Option Bool
  | .str [k], .str y => some (decide (k ∈ y))
  | x, .lst l => if x.pl && pls l && decide (x.dp ≤ 50) then some (l.any fun y => eqB y x) else none
  | x, .tup l => if x.pl && pls l && decide (x.dp ≤ 50) then some (l.any fun y => eqB y x) else none
  | _, _ => none
def inD (x y : D) : Option D := (inB x y).map D.bl
def ninD (x y : D) : Option D := (inB x y).map fun b => D.bl (!b)
def ixD : D → D → Option D
  | .lst l, .int i => getI l i
  | .tup l, .int i => getI l i
  | .str x, .int i => (getI x i).map fun k => .str [k]
  | _, _ => none
def cutI (n d : Nat) : Option Int → Nat
  | none => d
  | some v => if v < 0 then (v + (n : Int)).toNat else min v.toNat n
def cut {α : Type} (l : List α) (lo hi : Option Int) : List α := (l.drop (cutI l.length 0 lo)).take (cutI l.length l.length hi - cutI l.length 0 lo)
/-- built-ins by values -/
def slS : D → Option Int → Option Int → Option D
  | .str x, lo, hi => some (.str (cut x lo hi))
  | _, _, _ => none
def slL : D → Option Int → Option Int → Option (List D)
  | .lst l, lo, hi => some (cut l lo hi)
  | _, _, _ => none
def keyD : D → Option Ky
  | .int i => some (.i i)
  | .str x => some (.s x)
  | _ => none
def lookK : List (Ky × D) → Ky → Option D
  | [], _ => none
  | (k, d) :: r, q => if q = k then some d else lookK r q
/-- d[k] -/
def getKD : D → D → Option D
  | .dct l, k => (keyD k).bind (lookK l)
  | _, _ => none
/-- a written table of texts -/
def tabD (l : List (List Nat × D)) : D → Option D
  | .str x => l.lookup x
  | _ => none
/-- isinstance with a built-in class -/
inductive Ty where
  | str | int | bool | list | tuple | dict
  deriving DecidableEq
def isTy : Ty → D → Option Bool
  | .str, .str _ => some true
  | .int, .int _ => some true
  | .int, .bl _ => some true
  | .bool, .bl _ => some true
  | .list, .lst _ => some true
  | .tuple, .tup _ => some true
  | .dict, .dct _ => some true
  | _, .obj _ _ => none
  | _, .ex _ _ => none
  | _, _ => some false
def isiD (t : Ty) (d : D) : Option D := (isTy t d).map D.bl
/-- what is walked -/
def itL : D → Option (List D)
  | .lst l => some l
  | _ => none
def itT : D → Option (List D)
  | .tup l => some l
  | _ => none
def itS : D → Option (List D)
  | .str x => some (x.map fun k => .str [k])
  | _ => none
def enumF : Nat → List D → List D
  | _, [] => []
  | n, d :: ds => .tup [.int n, d] :: enumF (n + 1) ds
def itEL : D → Option (List D)
  | .lst l => some (enumF 0 l)
  | _ => none
def itES : D → Option (List D)
  | .str x => some (enumF 0 (x.map fun k => .str [k]))
  | _ => none
def rngF (lo : Int) : Nat → List D
  | 0 => []
  | n + 1 => .int lo :: rngF (lo + 1) n
def itR1 : D → Option (List D)
  | .int j => if -4611686018427387904 ≤ j ∧ j < 4611686018427387904 then some (rngF 0 j.toNat) else none
  | _ => none
def lenD : List D → Option D
  | [.str x] => some (.int x.length)
  | [.lst l] => some (.int l.length)
  | [.tup l] => some (.int l.length)
  | _ => none
def intD : List D → Option D
  | [.int i] => some (.int i)
  | [.bl b] => some (.int (if b then 1 else 0))
  | _ => none
def absD : List D → Option D
  | [.int i] => some (.int (if i < 0 then -i else i))
  | _ => none
def max2D : List D → Option D
  | [.int i, .int j] => some (.int (if j > i then j else i))
  | _ => none
def min2D : List D → Option D
  | [.int i, .int j] => some (.int (if j < i then j else i))
  | _ => none
def strsOf : List D → Option (List (List Nat))
  | [] => some []
  | .str x :: r => (strsOf r).map (x :: ·)
  | _ :: _ => none
def joinN (s : List Nat) : List (List Nat) → List Nat
  | [] => []
  | [p] => p
  | p :: q :: r => p ++ (s ++ joinN s (q :: r))
def joinD : D → D → Option D
  | .str s, .lst l => (strsOf l).bind fun xs => if (xs.map List.length).sum + xs.length * s.length ≤ lim then some (.str (joinN s xs)) else none
  | .str s, .tup l => (strsOf l).bind fun xs => if (xs.map List.length).sum + xs.length * s.length ≤ lim then some (.str (joinN s xs)) else none
  | _, _ => none
def catL : D → D → Option (List D)
  | .lst a, .lst b => if a.length + b.length ≤ lim then some (a ++ b) else none
  | _, _ => none
end F
end

section
set_option autoImplicit false
set_option Elab.async false
set_option linter.all false
set_option maxRecDepth 100000
/-! F layer, part B: data in the abstract heap. -/
namespace F
open PySem PySem.Spec PyProof.Rows L2
abbrev St := L2.St
structure Cn where
  K : PySem.W.Frag
  cls : Nat → Addr
  fld : Nat → List Str
  tabs : List (Addr × Option Str)
  ex : Nat → D → V → Hp → Prop
  exM : ∀ (k : Nat) (d : D) (v : V) (H H' : Hp), Same H H' → ex k d v H → ex k d v H'
  exR : ∀ (k : Nat) (d : D) (v : V) (H : Hp), ex k d v H → ∃ a, v = .ref a
def kyK : Ky → Key
  | .i n => .inl n
  | .s x => .inr (sS x)
mutual
def Dat (c : Cn) (H : Hp) : D → V → Prop
  | .non, v => v = .non
  | .bl b, v => v = .bl b
  | .int i, v => v = .int i
  | .str x, v => v = .str (sS x) ∧ x.length ≤ lim
  | .tup l, v => l.length ≤ lim ∧ ∃ a vs, v = .ref a ∧ SqT c.K H a vs ∧ Dats c H l vs
  | .lst l, v => l.length ≤ lim ∧ ∃ a vs, v = .ref a ∧ SqL c.K H a vs ∧ Dats c H l vs
  | .dct l, v => l.length ≤ lim ∧ ∃ a kvs, v = .ref a ∧ Rd H a (.dK kvs) ∧ DatK c H l kvs
  | .obj k l, v => ∃ a dx fs, v = .ref a ∧ H a = some (.ins (c.cls k) dx fs) ∧ fs.map (·.1) = (c.fld k).take l.length ∧ Dats c H l (fs.map (·.2))
  | .ex k d, v => c.ex k d v H
def Dats (c : Cn) (H : Hp) : List D → List V → Prop
  | [], vs => vs = []
  | d :: ds, vs => ∃ v r, vs = v :: r ∧ Dat c H d v ∧ Dats c H ds r
def DatK (c : Cn) (H : Hp) : List (Ky × D) → List (Key × V) → Prop
  | [], kvs => kvs = []
  | (k, d) :: r, kvs => ∃ v s, kvs = (kyK k, v) :: s ∧ Dat c H d v ∧ DatK c H r s
end
theorem Rd.same {H H' : Hp} {a : Addr} {u : HO} (e : Same H H') (h : Rd H a u) : Rd H' a u := h.elim (fun h => .inl (e _ _ h)) fun ⟨o, h⟩ => .inr ⟨o, e _ _ h⟩
theorem SqL.same {K : PySem.W.Frag} {H H' : Hp} {a : Addr} {xs : List V} (e : Same H H') (h : SqL K H a xs) : SqL K H' a xs := e.seq h
theorem SqT.same {K : PySem.W.Frag} {H H' : Hp} {a : Addr} {xs : List V} (e : Same H H') (h : SqT K H a xs) : SqT K H' a xs := by
  rcases h with (h | ⟨o, h⟩) | h
  · exact .inl (.inl (e _ _ h))
  · exact .inl (.inr ⟨o, e _ _ h⟩)
  · exact .inr h
section
variable {c : Cn} {H H' : Hp}
mutual
theorem Dat.mono (e : Same H H') : ∀ (d : D) (v : V), Dat c H d v → Dat c H' d v
  | .non, _, h => h
  | .bl _, _, h => h
  | .int _, _, h => h
  | .str _, _, h => h
  | .tup l, _, ⟨hl, a, vs, h1, h2, h3⟩ => ⟨hl, a, vs, h1, SqT.same e h2, Dats.mono e l vs h3⟩
  | .lst l, _, ⟨hl, a, vs, h1, h2, h3⟩ => ⟨hl, a, vs, h1, SqL.same e h2, Dats.mono e l vs h3⟩
  | .dct l, _, ⟨hl, a, kvs, h1, h2, h3⟩ => ⟨hl, a, kvs, h1, Rd.same e h2, DatK.mono e l kvs h3⟩
  | .obj k l, _, ⟨a, dx, fs, h1, h2, h3, h4⟩ => ⟨a, dx, fs, h1, e _ _ h2, h3, Dats.mono e l _ h4⟩
  | .ex k d, _, h => c.exM k d _ _ _ e h
theorem Dats.mono (e : Same H H') : ∀ (l : List D) (vs : List V), Dats c H l vs → Dats c H' l vs
  | [], _, h => h
  | d :: ds, _, ⟨v, r, h1, h2, h3⟩ => ⟨v, r, h1, Dat.mono e d v h2, Dats.mono e ds r h3⟩
theorem DatK.mono (e : Same H H') : ∀ (l : List (Ky × D)) (kvs : List (Key × V)), DatK c H l kvs → DatK c H' l kvs
  | [], _, h => h
  | (k, d) :: r, _, ⟨v, s, h1, h2, h3⟩ => ⟨v, s, h1, Dat.mono e d v h2, DatK.mono e r s h3⟩
end
end
section
variable {c : Cn} {H : Hp}
theorem Dats.len : ∀ {l : List D} {vs : List V}, Dats c H l vs → vs.length = l.length
  | [], _, h => by
    have h : _ = _ := h
    rw [h]
    rfl
  | d :: ds, _, ⟨v, r, h1, _, h3⟩ => by
    subst h1
    rw [List.length_cons, List.length_cons, Dats.len h3]
theorem Dats.app : ∀ {l m : List D} {vs ws : List V}, Dats c H l vs → Dats c H m ws → Dats c H (l ++ m) (vs ++ ws)
  | [], m, _, ws, h, g => by
    have h : _ = _ := h
    rw [h]
    exact g
  | d :: ds, m, _, ws, ⟨v, r, h1, h2, h3⟩, g => by
    subst h1
    exact ⟨v, r ++ ws, rfl, h2, Dats.app h3 g⟩
theorem Dats.one {d : D} {v : V} (h : Dat c H d v) : Dats c H [d] [v] := ⟨v, [], rfl, h, rfl⟩
theorem Dats.get : ∀ {l : List D} {vs : List V} {i : Nat} {d : D}, Dats c H l vs → l[i]? = some d → ∃ v, vs[i]? = some v ∧ Dat c H d v
  | [], _, _, _, _, e => by simp at e
  | d :: ds, _, 0, x, ⟨v, r, h1, h2, h3⟩, e => by
    subst h1
    simp at e
    subst e
    exact ⟨v, rfl, h2⟩
  | d :: ds, _, i + 1, x, ⟨v, r, h1, h2, h3⟩, e => by
    subst h1
    obtain ⟨w, a, b⟩ := Dats.get (i := i) h3 (by simpa using e)
    exact ⟨w, by simpa using a, b⟩
theorem Dats.set {d : D} {v : V} (h : Dat c H d v) : ∀ {l : List D} {vs : List V} (i : Nat), Dats c H l vs → Dats c H (l.set i d) (vs.set i v)
  | [], _, _, g => by
    have g : _ = _ := g
    rw [g]
    rfl
  | x :: ds, _, 0, ⟨w, r, h1, h2, h3⟩ => by
    subst h1
    exact ⟨v, r, rfl, h, h3⟩
  | x :: ds, _, i + 1, ⟨w, r, h1, h2, h3⟩ => by
    subst h1
    exact ⟨w, r.set i v, rfl, h2, Dats.set h i h3⟩
theorem Dats.take : ∀ {l : List D} {vs : List V} (n : Nat), Dats c H l vs → Dats c H (l.take n) (vs.take n)
  | _, _, 0, _ => by simp only [List.take_zero]; rfl
  | [], _, n + 1, g => by
    have g : _ = _ := g
    rw [g]
    rfl
  | x :: ds, _, n + 1, ⟨w, r, h1, h2, h3⟩ => by
    subst h1
    exact ⟨w, r.take n, rfl, h2, Dats.take n h3⟩
theorem Dats.drop : ∀ {l : List D} {vs : List V} (n : Nat), Dats c H l vs → Dats c H (l.drop n) (vs.drop n)
  | _, _, 0, g => by simpa using g
  | [], _, n + 1, g => by
    have g : _ = _ := g
    rw [g]
    rfl
  | x :: ds, _, n + 1, ⟨w, r, h1, h2, h3⟩ => by
    subst h1
    exact Dats.drop n h3
end
/-! ### a thing of one's own: its addresses -/
mutual
def OwnR (c : Cn) (H0 H : Hp) : O → V → List Addr → Prop
  | .sh d, v, as => as = [] ∧ Dat c H0 d v
  | .fl l, v, as => l.length ≤ lim ∧ ∃ a vs, v = .ref a ∧ as = [a] ∧ H a = some (.lst vs) ∧ Dats c H0 l vs
  | .fd l, v, as => l.length ≤ lim ∧ ∃ a kvs, v = .ref a ∧ as = [a] ∧ H a = some (.dK kvs) ∧ DatK c H0 l kvs
  | .fo k os, v, as => ∃ a dx fs bs, v = .ref a ∧ as = a :: dx :: bs ∧ H a = some (.ins (c.cls k) dx fs) ∧ H dx = some (.own a) ∧ fs.map (·.1) = (c.fld k).take os.length ∧ OwnRs c H0 H os (fs.map (·.2)) bs
def OwnRs (c : Cn) (H0 H : Hp) : List O → List V → List Addr → Prop
  | [], vs, as => vs = [] ∧ as = []
  | o :: os, vs, as => ∃ v r bs cs, vs = v :: r ∧ as = bs ++ cs ∧ OwnR c H0 H o v bs ∧ OwnRs c H0 H os r cs
end
/-- H0 with what stands in H at as -/
def addF (H0 H : Hp) (as : List Addr) : Hp := fun b => if b ∈ as then H b else H0 b
theorem addF_in {H0 H : Hp} {as : List Addr} {b : Addr} (h : b ∈ as) : addF H0 H as b = H b := if_pos h
theorem addF_out {H0 H : Hp} {as : List Addr} {b : Addr} (h : b ∉ as) : addF H0 H as b = H0 b := if_neg h
section
variable {c : Cn} {H0 H1 H H' : Hp}
mutual
theorem OwnR.mono (e : Same H0 H1) : ∀ (o : O) (v : V) (as : List Addr), (∀ a ∈ as, H' a = H a) → OwnR c H0 H o v as → OwnR c H1 H' o v as
  | .sh d, _, _, _, ⟨h1, h2⟩ => ⟨h1, Dat.mono e d _ h2⟩
  | .fl l, _, _, k, ⟨hl, a, vs, h1, h2, h3, h4⟩ => ⟨hl, a, vs, h1, h2, by rw [k a (by rw [h2]; simp)]; exact h3, Dats.mono e l vs h4⟩
  | .fd l, _, _, k, ⟨hl, a, vs, h1, h2, h3, h4⟩ => ⟨hl, a, vs, h1, h2, by rw [k a (by rw [h2]; simp)]; exact h3, DatK.mono e l vs h4⟩
  | .fo q os, _, _, k, ⟨a, dx, fs, bs, h1, h2, h3, h4, h5, h6⟩ => ⟨a, dx, fs, bs, h1, h2, by rw [k a (by rw [h2]; simp)]; exact h3, by rw [k dx (by rw [h2]; simp)]; exact h4, h5,
      OwnRs.mono e os _ bs (fun b hb => k b (by rw [h2]; simp [hb])) h6⟩
theorem OwnRs.mono (e : Same H0 H1) : ∀ (os : List O) (vs : List V) (as : List Addr), (∀ a ∈ as, H' a = H a) → OwnRs c H0 H os vs as → OwnRs c H1 H' os vs as
  | [], _, _, _, h => h
  | o :: os, _, _, k, ⟨v, r, bs, cs, h1, h2, h3, h4⟩ => ⟨v, r, bs, cs, h1, h2, OwnR.mono e o v bs (fun a ha => k a (by rw [h2]; exact List.mem_append_left _ ha)) h3, OwnRs.mono e os r cs (fun a ha => k a (by rw [h2]; exact List.mem_append_right _ ha)) h4⟩
end
mutual
theorem OwnR.here : ∀ (o : O) (v : V) (as : List Addr), OwnR c H0 H o v as → ∀ a ∈ as, ∃ x, H a = some x
  | .sh d, _, _, ⟨h1, _⟩, a, ha => by rw [h1] at ha; cases ha
  | .fl l, _, _, ⟨_, b, vs, _, h2, h3, _⟩, a, ha => by
    rw [h2] at ha
    rw [List.mem_singleton.mp ha]
    exact ⟨_, h3⟩
  | .fd l, _, _, ⟨_, b, vs, _, h2, h3, _⟩, a, ha => by
    rw [h2] at ha
    rw [List.mem_singleton.mp ha]
    exact ⟨_, h3⟩
  | .fo q os, _, _, ⟨b, dx, fs, bs, _, h2, h3, h4, _, h6⟩, a, ha => by
    rw [h2] at ha
    rcases List.mem_cons.mp ha with e | ha
    · rw [e]; exact ⟨_, h3⟩
    · rcases List.mem_cons.mp ha with e | ha
      · rw [e]; exact ⟨_, h4⟩
      · exact OwnRs.here os _ bs h6 a ha
theorem OwnRs.here : ∀ (os : List O) (vs : List V) (as : List Addr), OwnRs c H0 H os vs as → ∀ a ∈ as, ∃ x, H a = some x
  | [], _, _, ⟨_, h⟩, a, ha => by rw [h] at ha; cases ha
  | o :: os, _, _, ⟨v, r, bs, cs, _, h2, h3, h4⟩, a, ha => by
    rw [h2] at ha
    rcases List.mem_append.mp ha with ha | ha
    · exact OwnR.here o v bs h3 a ha
    · exact OwnRs.here os r cs h4 a ha
end
mutual
/-- kept from now on: data over H0 with its addresses -/
theorem OwnR.dat : ∀ (o : O) (v : V) (as : List Addr), OwnR c H0 H o v as → Same H0 H1 → (∀ a ∈ as, H1 a = H a) → Dat c H1 o.frz v
  | .sh d, v, _, ⟨_, h⟩, e, _ => Dat.mono e d v h
  | .fl l, v, _, ⟨hl, a, vs, h1, h2, h3, h4⟩, e, k => ⟨hl, a, vs, h1, SqL.of (by rw [k a (by rw [h2]; simp)]; exact h3), Dats.mono e l vs h4⟩
  | .fd l, v, _, ⟨hl, a, vs, h1, h2, h3, h4⟩, e, k => ⟨hl, a, vs, h1, .inl (by rw [k a (by rw [h2]; simp)]; exact h3), DatK.mono e l vs h4⟩
  | .fo q os, v, _, ⟨a, dx, fs, bs, h1, h2, h3, h4, h5, h6⟩, e, k => ⟨a, dx, fs, h1, (by rw [k a (by rw [h2]; simp)]; exact h3), by rw [h5, OwnRs.frlen os],
      OwnRs.dat os _ bs h6 e fun b hb => k b (by rw [h2]; simp [hb])⟩
theorem OwnRs.dat : ∀ (os : List O) (vs : List V) (as : List Addr), OwnRs c H0 H os vs as → Same H0 H1 → (∀ a ∈ as, H1 a = H a) → Dats c H1 (frzs os) vs
  | [], _, _, ⟨h, _⟩, _, _ => h
  | o :: os, _, _, ⟨v, r, bs, cs, h1, h2, h3, h4⟩, e, k => ⟨v, r, h1, OwnR.dat o v bs h3 e fun a ha => k a (by rw [h2]; exact List.mem_append_left _ ha), OwnRs.dat os r cs h4 e fun a ha => k a (by rw [h2]; exact List.mem_append_right _ ha)⟩
theorem OwnRs.frlen : ∀ os : List O, os.length = (frzs os).length
  | [] => rfl
  | o :: os => by
    show os.length + 1 = (frzs os).length + 1
    rw [OwnRs.frlen os]
end
end
/-! ### tables of code objects -/
def TabAt (H0 H : Hp) (p : Addr × Option Str) : Prop := ∃ ps : Array Value, H p.1 = some (.tbl ps) ∧ TriplesOk ps.toList ∧ ∀ q, p.2 = some q → ∀ (pos : Pos) (cv : Value), codeAmong pos ps.toList = some cv → ∃ a, cv = .ref a ∧ H0 a = some (LamX.CodeO a q)
structure TabR (c : Cn) (H0 Fr H : Hp) (as : Nat → List Addr) : Prop where
  at_ : ∀ p ∈ c.tabs, TabAt H0 H p
  n0 : ∀ p ∈ c.tabs, H0 p.1 = none
  nF : ∀ p ∈ c.tabs, Fr p.1 = none
  na : ∀ p ∈ c.tabs, ∀ i, p.1 ∉ as i
theorem TabAt.mono {H0 H1 H H' : Hp} {p : Addr × Option Str} (s : Same H0 H1) (e : H' p.1 = H p.1) (t : TabAt H0 H p) : TabAt H1 H' p := by
  obtain ⟨ps, h1, h2, h3⟩ := t
  refine ⟨ps, e.trans h1, h2, fun q hq pos cv hc => ?_⟩
  obtain ⟨a, e1, e2⟩ := h3 q hq pos cv hc
  exact ⟨a, e1, s _ _ e2⟩
theorem TabAt.ne {H0 H : Hp} {p : Addr × Option Str} {b : Addr} (t : TabAt H0 H p) (h : H b = none) : p.1 ≠ b := by
  obtain ⟨ps, h1, _, _⟩ := t
  exact ne_of_none h1 h
/-- a table's place is none of one's own things -/
theorem TabR.ne {c : Cn} {H0 Fr H : Hp} {as : Nat → List Addr} (t : TabR c H0 Fr H as) {p : Addr × Option Str} (hp : p ∈ c.tabs) {b : Addr} (h : H b = none) : p.1 ≠ b := (t.at_ p hp).ne h
theorem TabR.ne_as {c : Cn} {H0 Fr H : Hp} {as : Nat → List Addr} (t : TabR c H0 Fr H as) {p : Addr × Option Str} (hp : p ∈ c.tabs) {b : Addr} {i : Nat} (h : b ∈ as i) : p.1 ≠ b := fun z => t.na p hp i (z ▸ h)
theorem TabR.re {c : Cn} {H0 H1 Fr Fr' H H' : Hp} {as as' : Nat → List Addr} (t : TabR c H0 Fr H as) (s : Same H0 H1) (eH : ∀ p ∈ c.tabs, H' p.1 = H p.1) (e0 : ∀ p ∈ c.tabs, H1 p.1 = none) (eF : ∀ p ∈ c.tabs, Fr' p.1 = none) (ea : ∀ p ∈ c.tabs, ∀ i, p.1 ∉ as' i) : TabR c H1 Fr' H' as' :=
  ⟨fun p hp => (t.at_ p hp).mono s (eH p hp), e0, eF, ea⟩
theorem TabR.sub {c : Cn} {H0 Fr H : Hp} {as as' : Nat → List Addr} (t : TabR c H0 Fr H as) (h : ∀ i a, a ∈ as' i → ∃ j, a ∈ as j) : TabR c H0 Fr H as' :=
  ⟨t.at_, t.n0, t.nF, fun p hp i z => let ⟨j, q⟩ := h i _ z; t.na p hp j q⟩
/-! ### the names' things -/
structure Rp (c : Cn) (H0 Fr H : Hp) (σ : St) (env : Env) (as : Nat → List Addr) : Prop where
  len : env.length = σ.length
  sub : Same H0 H
  fr : ∀ b o, Fr b = some o → H b = some o ∧ H0 b = none
  own : ∀ i o, slot env i = some o → ∃ v, σ[i]? = some (some v) ∧ OwnR c H0 H o v (as i)
  off : ∀ i, ∀ a ∈ as i, H0 a = none ∧ Fr a = none
  sep : ∀ i j a, a ∈ as i → a ∈ as j → i = j
  nd : ∀ i, (as i).Nodup
  emp : ∀ i, slot env i = none → as i = []
  tab : TabR c H0 Fr H as
theorem slot_lt {e : Env} {i : Nat} {o : O} (h : slot e i = some o) : i < e.length := by
  unfold slot at h
  split at h
  · rename_i q
    exact (List.getElem?_eq_some_iff.mp q).1
  · cases h
theorem slot_set {e : Env} {i j : Nat} {x : Option O} (h : i < e.length) : slot (e.set i x) j = if j = i then x else slot e j := by
  unfold slot
  by_cases q : j = i
  · subst q
    rw [List.getElem?_set_self h, if_pos rfl]
    cases x <;> rfl
  · rw [List.getElem?_set_ne (Ne.symm q), if_neg q]
theorem slot_set_ge {e : Env} {i : Nat} {x : Option O} (h : ¬ i < e.length) : e.set i x = e := List.set_eq_of_length_le (Nat.le_of_not_lt h)
theorem slot_set_ne {e : Env} {i j : Nat} {x : Option O} (h : j ≠ i) : slot (e.set i x) j = slot e j := by
  unfold slot
  rw [List.getElem?_set_ne (Ne.symm h)]
theorem slot_none {e : Env} {i j : Nat} {o : O} (h : slot (e.set i none) j = some o) : j ≠ i ∧ slot e j = some o := by
  by_cases hl : i < e.length
  · rw [slot_set hl] at h
    split at h
    · cases h
    · exact ⟨by assumption, h⟩
  · rw [slot_set_ge hl] at h
    exact ⟨fun q => hl (q ▸ slot_lt h), h⟩
section
variable {c : Cn} {H0 Fr H : Hp} {σ : St} {env : Env} {as : Nat → List Addr}
theorem Rp.mem (r : Rp c H0 Fr H σ env as) {i : Nat} {a : Addr} (h : a ∈ as i) : ∃ o, slot env i = some o := by
  cases q : slot env i with
  | none =>
    rw [r.emp i q] at h
    cases h
  | some o => exact ⟨o, rfl⟩
theorem Rp.here (r : Rp c H0 Fr H σ env as) {i : Nat} {a : Addr} (h : a ∈ as i) : ∃ x, H a = some x := by
  obtain ⟨o, e⟩ := r.mem h
  obtain ⟨v, _, q⟩ := r.own i o e
  exact OwnR.here o v _ q a h
/-- what a name holds, read -/
theorem Rp.peek (r : Rp c H0 Fr H σ env as) {i : Nat} {o : O} (e : slot env i = some o) : ∃ v, σ[i]? = some (some v) ∧ Dat c H o.frz v := by
  obtain ⟨v, h1, h2⟩ := r.own i o e
  exact ⟨v, h1, OwnR.dat o v _ h2 r.sub fun _ _ => rfl⟩
theorem same_addF' {bs : List Addr} (h : ∀ a ∈ bs, H0 a = none) : Same H0 (addF H0 H bs) := fun b o e => by
  rw [addF_out (fun q => by rw [h b q] at e; cases e)]
  exact e
/-- another as at one place -/
def setA (as : Nat → List Addr) (i : Nat) (bs : List Addr) : Nat → List Addr := fun j => if j = i then bs else as j
theorem setA_same {i : Nat} {bs : List Addr} : setA as i bs i = bs := if_pos rfl
theorem setA_ne {i j : Nat} {bs : List Addr} (h : j ≠ i) : setA as i bs j = as j := if_neg h
theorem setA_mem {i j : Nat} {a : Addr} (h : a ∈ setA as i [] j) : j ≠ i ∧ a ∈ as j := by
  unfold setA at h
  split at h
  · cases h
  · exact ⟨by assumption, h⟩
/-- a name's thing is kept from now on as shared data -/
theorem Rp.freeze (r : Rp c H0 Fr H σ env as) {i : Nat} {o : O} (e : slot env i = some o) : ∃ H1 v, Same H0 H1 ∧ Rp c H1 Fr H σ (env.set i (some (.sh o.frz))) (setA as i []) ∧ σ[i]? = some (some v) ∧ Dat c H1 o.frz v := by
  obtain ⟨v, h1, h2⟩ := r.own i o e
  have hl := slot_lt e
  have s1 : Same H0 (addF H0 H (as i)) := same_addF' fun a ha => (r.off i a ha).1
  have hd : Dat c (addF H0 H (as i)) o.frz v := OwnR.dat o v _ h2 s1 fun a ha => addF_in ha
  refine ⟨addF H0 H (as i), v, s1, ⟨by simpa using r.len, ?_, ?_, ?_, ?_, ?_, ?_, ?_, r.tab.re s1 (fun _ _ => rfl) (fun p hp => by rw [addF_out (r.tab.na p hp i)]; exact r.tab.n0 p hp) r.tab.nF fun p hp j z => r.tab.na p hp j (setA_mem z).2⟩, h1, hd⟩
  · intro b x hb
    by_cases q : b ∈ as i
    · rw [addF_in q] at hb
      exact hb
    · rw [addF_out q] at hb
      exact r.sub b x hb
  · intro b x hb
    refine ⟨(r.fr b x hb).1, ?_⟩
    rw [addF_out fun q => by rw [(r.off i b q).2] at hb; cases hb]
    exact (r.fr b x hb).2
  · intro j o' ej
    rw [slot_set hl] at ej
    by_cases q : j = i
    · rw [if_pos q] at ej
      cases ej
      subst q
      exact ⟨v, h1, by rw [setA_same]; exact ⟨rfl, hd⟩⟩
    · rw [if_neg q] at ej
      obtain ⟨v', g1, g2⟩ := r.own j o' ej
      exact ⟨v', g1, by rw [setA_ne q]; exact OwnR.mono s1 o' v' _ (fun _ _ => rfl) g2⟩
  · intro j a ha
    obtain ⟨hj, ha⟩ := setA_mem ha
    refine ⟨?_, (r.off j a ha).2⟩
    rw [addF_out fun q => hj (r.sep j i a ha q)]
    exact (r.off j a ha).1
  · intro j k a ha hk
    exact r.sep j k a (setA_mem ha).2 (setA_mem hk).2
  · intro j
    by_cases q : j = i
    · rw [q, setA_same]; exact List.nodup_nil
    · rw [setA_ne q]; exact r.nd j
  · intro j ej
    by_cases q : j = i
    · rw [q, setA_same]
    · rw [setA_ne q]
      rw [slot_set hl, if_neg q] at ej
      exact r.emp j ej
/-- a new thing that is shared -/
theorem Rp.alloc (r : Rp c H0 Fr H σ env as) {p : Addr} {x : HO} (hp : H p = none) : Same H0 (upd H0 p x) ∧ Rp c (upd H0 p x) Fr (upd H p x) σ env as := by
  have h0 : H0 p = none := by
    cases q : H0 p with
    | none => rfl
    | some y =>
      rw [r.sub p y q] at hp
      cases hp
  have s1 : Same H0 (upd H0 p x) := fun b o e => by rw [upd_ne (ne_of_none e h0)]; exact e
  refine ⟨s1, r.len, ?_, ?_, ?_, ?_, r.sep, r.nd, r.emp, r.tab.re s1 (fun p q => upd_ne (r.tab.ne q hp)) (fun p q => by rw [upd_ne (r.tab.ne q hp)]; exact r.tab.n0 p q) r.tab.nF r.tab.na⟩
  · intro b o e
    by_cases q : b = p
    · subst q
      rw [upd_same] at e ⊢
      exact e
    · rw [upd_ne q] at e ⊢
      exact r.sub b o e
  · intro b o e
    have q : b ≠ p := ne_of_none (r.fr b o e).1 hp
    rw [upd_ne q, upd_ne q]
    exact r.fr b o e
  · intro i o e
    obtain ⟨v, h1, h2⟩ := r.own i o e
    refine ⟨v, h1, OwnR.mono s1 o v _ (fun a ha => ?_) h2⟩
    obtain ⟨y, hy⟩ := r.here ha
    rw [upd_ne (ne_of_none hy hp)]
  · intro i a ha
    obtain ⟨y, hy⟩ := r.here ha
    rw [upd_ne (ne_of_none hy hp)]
    exact r.off i a ha
/-- a name is forgotten; what it alone held goes to the frame of the proof or away -/
theorem Rp.drop (r : Rp c H0 Fr H σ env as) (i : Nat) : Rp c H0 Fr H σ (env.set i none) (setA as i []) := by
  refine ⟨by simpa using r.len, r.sub, r.fr, ?_, ?_, ?_, ?_, ?_, r.tab.sub fun i a z => ⟨i, (setA_mem z).2⟩⟩
  · intro j o e
    obtain ⟨hj, e⟩ := slot_none e
    obtain ⟨v, h1, h2⟩ := r.own j o e
    exact ⟨v, h1, by rw [setA_ne hj]; exact h2⟩
  · intro j a ha
    exact r.off j a (setA_mem ha).2
  · intro j k a ha hk
    exact r.sep j k a (setA_mem ha).2 (setA_mem hk).2
  · intro j
    by_cases q : j = i
    · rw [q, setA_same]; exact List.nodup_nil
    · rw [setA_ne q]; exact r.nd j
  · intro j e
    by_cases q : j = i
    · rw [q, setA_same]
    · rw [setA_ne q]
      rw [slot_set_ne q] at e
      exact r.emp j e
/-- a name gets shared data -/
theorem Rp.setSh (r : Rp c H0 Fr H σ env as) {i : Nat} {d : D} {v : V} (h : Dat c H0 d v) : Rp c H0 Fr H (σ.set i (some v)) (env.set i (some (.sh d))) (setA as i []) := by
  refine ⟨by simpa using r.len, r.sub, r.fr, ?_, ?_, ?_, ?_, ?_, r.tab.sub fun i a z => ⟨i, (setA_mem z).2⟩⟩
  · intro j o e
    by_cases hl : i < env.length
    · rw [slot_set hl] at e
      by_cases q : j = i
      · rw [if_pos q] at e
        cases e
        subst q
        exact ⟨v, List.getElem?_set_self (by rw [← r.len]; exact hl), by rw [setA_same]; exact ⟨rfl, h⟩⟩
      · rw [if_neg q] at e
        obtain ⟨w, h1, h2⟩ := r.own j o e
        exact ⟨w, by rw [List.getElem?_set_ne (Ne.symm q)]; exact h1, by rw [setA_ne q]; exact h2⟩
    · rw [slot_set_ge hl] at e
      have q : j ≠ i := fun q => hl (q ▸ slot_lt e)
      obtain ⟨w, h1, h2⟩ := r.own j o e
      exact ⟨w, by rw [List.getElem?_set_ne (Ne.symm q)]; exact h1, by rw [setA_ne q]; exact h2⟩
  · intro j a ha
    exact r.off j a (setA_mem ha).2
  · intro j k a ha hk
    exact r.sep j k a (setA_mem ha).2 (setA_mem hk).2
  · intro j
    by_cases q : j = i
    · rw [q, setA_same]; exact List.nodup_nil
    · rw [setA_ne q]; exact r.nd j
  · intro j e
    by_cases q : j = i
    · rw [q, setA_same]
    · rw [setA_ne q]
      rw [slot_set_ne q] at e
      exact r.emp j e
/-- the proof's frame: other slots of the machine's list of names -/
theorem Rp.other (r : Rp c H0 Fr H σ env as) {σ' : St} (hl : σ'.length = σ.length) (h : ∀ i o, slot env i = some o → σ'[i]? = σ[i]?) : Rp c H0 Fr H σ' env as :=
  ⟨by rw [hl]; exact r.len, r.sub, r.fr, fun i o e => by rw [h i o e]; exact r.own i o e, r.off, r.sep, r.nd, r.emp, r.tab⟩
/-- the heap grows elsewhere: new addresses alone -/
theorem Rp.heap (r : Rp c H0 Fr H σ env as) {H' : Hp} (h : Same H H') : Rp c H0 Fr H' σ env as := by
  refine ⟨r.len, fun b o e => h b o (r.sub b o e), fun b o e => ⟨h b o (r.fr b o e).1, (r.fr b o e).2⟩, fun i o e => ?_, r.off, r.sep, r.nd, r.emp, r.tab.re (Same.refl _) (fun p q => let ⟨ps, e, _⟩ := r.tab.at_ p q; (h _ _ e).trans e.symm) r.tab.n0 r.tab.nF r.tab.na⟩
  obtain ⟨v, h1, h2⟩ := r.own i o e
  exact ⟨v, h1, OwnR.mono (fun _ _ z => z) o v _ (fun a ha => by
    obtain ⟨x, hx⟩ := r.here ha
    rw [hx, h a x hx]) h2⟩
/-- a thing that no name holds yet: v stands for o -/
def Rp1 (c : Cn) (H0 Fr H : Hp) (σ : St) (env : Env) (v : V) (o : O) : Prop :=
  ∃ bs as, OwnR c H0 H o v bs ∧ bs.Nodup ∧ (∀ a ∈ bs, H0 a = none ∧ Fr a = none) ∧ Rp c H0 (addF Fr H bs) H σ env as
theorem addF_nil {Fr H : Hp} : addF Fr H [] = Fr := funext fun b => addF_out (by simp)
theorem Rp.sh1 (r : Rp c H0 Fr H σ env as) {d : D} {v : V} (h : Dat c H0 d v) : Rp1 c H0 Fr H σ env v (.sh d) :=
  ⟨[], as, ⟨rfl, h⟩, List.nodup_nil, by simp, by rw [addF_nil]; exact r⟩
/-- a frame that says less -/
theorem Rp.less (r : Rp c H0 Fr H σ env as) {Fr' : Hp} (h : ∀ b o, Fr' b = some o → Fr b = some o) : Rp c H0 Fr' H σ env as :=
  ⟨r.len, r.sub, fun b o e => r.fr b o (h b o e), r.own, fun i a ha => ⟨(r.off i a ha).1, by
    cases q : Fr' a with
    | none => rfl
    | some o =>
      have := h a o q
      rw [(r.off i a ha).2] at this
      cases this⟩, r.sep, r.nd, r.emp, r.tab.re (Same.refl _) (fun _ _ => rfl) r.tab.n0 (fun p q => by
    cases z : Fr' p.1 with
    | none => rfl
    | some o =>
      have := h _ _ z
      rw [r.tab.nF p q] at this
      cases this) r.tab.na⟩
theorem Rp1.rp {v : V} {o : O} (r : Rp1 c H0 Fr H σ env v o) : ∃ as, Rp c H0 Fr H σ env as := by
  obtain ⟨bs, as, h1, h2, h3, h4⟩ := r
  refine ⟨as, h4.less fun b x e => ?_⟩
  rw [addF_out fun q => by rw [(h3 b q).2] at e; cases e]
  exact e
/-- it is kept as shared data -/
theorem Rp1.freeze {v : V} {o : O} (r : Rp1 c H0 Fr H σ env v o) : ∃ H1 as, Same H0 H1 ∧ Rp c H1 Fr H σ env as ∧ Dat c H1 o.frz v := by
  obtain ⟨bs, as, h1, h2, h3, h4⟩ := r
  have s1 : Same H0 (addF H0 H bs) := same_addF' fun a ha => (h3 a ha).1
  refine ⟨addF H0 H bs, as, s1, ⟨h4.len, ?_, ?_, ?_, ?_, h4.sep, h4.nd, h4.emp, h4.tab.re s1 (fun _ _ => rfl) (fun p q => ?_) (fun p q => ?_) h4.tab.na⟩, OwnR.dat o v _ h1 s1 fun a ha => addF_in ha⟩
  · intro b x hb
    by_cases q : b ∈ bs
    · rw [addF_in q] at hb
      exact hb
    · rw [addF_out q] at hb
      exact h4.sub b x hb
  · intro b x hb
    have q : b ∉ bs := fun q => by rw [(h3 b q).2] at hb; cases hb
    rw [addF_out q]
    exact h4.fr b x (by rw [addF_out q]; exact hb)
  · intro i o' e
    obtain ⟨w, g1, g2⟩ := h4.own i o' e
    exact ⟨w, g1, OwnR.mono s1 o' w _ (fun _ _ => rfl) g2⟩
  · intro i a ha
    have q : a ∉ bs := fun q => by
      have z := (h4.off i a ha).2
      rw [addF_in q] at z
      obtain ⟨x, hx⟩ := h4.here ha
      rw [hx] at z
      cases z
    refine ⟨by rw [addF_out q]; exact (h4.off i a ha).1, ?_⟩
    have z := (h4.off i a ha).2
    rw [addF_out q] at z
    exact z
  · have z : p.1 ∉ bs := fun z => by
      have nF := h4.tab.nF p q
      rw [addF_in z] at nF
      obtain ⟨x, hx⟩ := OwnR.here o v bs h1 _ z
      rw [hx] at nF
      cases nF
    rw [addF_out z]
    exact h4.tab.n0 p q
  · have z : p.1 ∉ bs := fun z => by
      have nF := h4.tab.nF p q
      rw [addF_in z] at nF
      obtain ⟨x, hx⟩ := OwnR.here o v bs h1 _ z
      rw [hx] at nF
      cases nF
    have nF := h4.tab.nF p q
    rw [addF_out z] at nF
    exact nF
/-- a name gets it -/
theorem Rp1.set {v : V} {o : O} {i : Nat} (r : Rp1 c H0 Fr H σ env v o) : ∃ as, Rp c H0 Fr H (σ.set i (some v)) (env.set i (some o)) as := by
  obtain ⟨bs, as, h1, h2, h3, h4⟩ := r
  have out : ∀ {j a}, a ∈ as j → a ∉ bs := fun {j a} ha q => by
    have z := (h4.off j a ha).2
    rw [addF_in q] at z
    obtain ⟨x, hx⟩ := h4.here ha
    rw [hx] at z
    cases z
  by_cases hl : i < env.length
  · have tz : ∀ p ∈ c.tabs, p.1 ∉ bs ∧ Fr p.1 = none := fun p q => by
      have z : p.1 ∉ bs := fun z => by
        have nF := h4.tab.nF p q
        rw [addF_in z] at nF
        obtain ⟨x, hx⟩ := OwnR.here o v bs h1 _ z
        rw [hx] at nF
        cases nF
      have nF := h4.tab.nF p q
      rw [addF_out z] at nF
      exact ⟨z, nF⟩
    refine ⟨setA as i bs, by simpa using h4.len, h4.sub, ?_, ?_, ?_, ?_, ?_, ?_, h4.tab.re (Same.refl _) (fun _ _ => rfl) h4.tab.n0 (fun p q => (tz p q).2) fun p q j z => ?_⟩
    · intro b x e
      have q : b ∉ bs := fun q => by rw [(h3 b q).2] at e; cases e
      exact h4.fr b x (by rw [addF_out q]; exact e)
    · intro j o' e
      rw [slot_set hl] at e
      by_cases q : j = i
      · rw [if_pos q] at e
        cases e
        subst q
        exact ⟨v, List.getElem?_set_self (by rw [← h4.len]; exact hl), by rw [setA_same]; exact h1⟩
      · rw [if_neg q] at e
        obtain ⟨w, g1, g2⟩ := h4.own j o' e
        exact ⟨w, by rw [List.getElem?_set_ne (Ne.symm q)]; exact g1, by rw [setA_ne q]; exact g2⟩
    · intro j a ha
      by_cases q : j = i
      · subst q
        rw [setA_same] at ha
        exact h3 a ha
      · rw [setA_ne q] at ha
        have z := (h4.off j a ha).2
        rw [addF_out (out ha)] at z
        exact ⟨(h4.off j a ha).1, z⟩
    · intro j k a ha hk
      by_cases q : j = i
      · subst q
        rw [setA_same] at ha
        by_cases q2 : k = j
        · exact q2.symm
        · rw [setA_ne q2] at hk
          exact absurd ha (out hk)
      · rw [setA_ne q] at ha
        by_cases q2 : k = i
        · subst q2
          rw [setA_same] at hk
          exact absurd hk (out ha)
        · rw [setA_ne q2] at hk
          exact h4.sep j k a ha hk
    · intro j
      by_cases q : j = i
      · rw [q, setA_same]; exact h2
      · rw [setA_ne q]; exact h4.nd j
    · intro j e
      rw [slot_set hl] at e
      by_cases q : j = i
      · rw [if_pos q] at e
        cases e
      · rw [if_neg q] at e
        rw [setA_ne q]
        exact h4.emp j e
    · by_cases e : j = i
      · subst e
        rw [setA_same] at z
        exact (tz p q).1 z
      · rw [setA_ne e] at z
        exact h4.tab.na p q j z
  · obtain ⟨as2, h5⟩ := Rp1.rp ⟨bs, as, h1, h2, h3, h4⟩
    rw [slot_set_ge hl]
    refine ⟨as2, h5.other (by simp) fun j o' e => ?_⟩
    have hj := slot_lt e
    exact List.getElem?_set_ne fun q => hl (by omega)
/-- a new thing of one's own -/
theorem Rp.new (r : Rp c H0 Fr H σ env as) {p : Addr} {x : HO} {o : O} (hp : H p = none) (h : OwnR c H0 (upd H p x) o (.ref p) [p]) : Rp1 c H0 Fr (upd H p x) σ env (.ref p) o := by
  have h0 : H0 p = none := by
    cases q : H0 p with
    | none => rfl
    | some y =>
      rw [r.sub p y q] at hp
      cases hp
  have hF : Fr p = none := by
    cases q : Fr p with
    | none => rfl
    | some y =>
      rw [(r.fr p y q).1] at hp
      cases hp
  have sH : Same H (upd H p x) := fun b o e => by rw [upd_ne (ne_of_none e hp)]; exact e
  refine ⟨[p], as, h, by simp, fun a ha => by rw [List.mem_singleton.mp ha]; exact ⟨h0, hF⟩, ?_⟩
  have r2 := r.heap sH
  refine ⟨r2.len, r2.sub, ?_, r2.own, ?_, r2.sep, r2.nd, r2.emp, r2.tab.re (Same.refl _) (fun _ _ => rfl) r2.tab.n0 (fun a q => by rw [addF_out fun z => r.tab.ne q hp (List.mem_singleton.mp z)]; exact r2.tab.nF a q) r2.tab.na⟩
  · intro b o e
    by_cases q : b ∈ [p]
    · rw [addF_in q] at e
      rw [List.mem_singleton.mp q] at e ⊢
      exact ⟨e, h0⟩
    · rw [addF_out q] at e
      exact r2.fr b o e
  · intro i a ha
    obtain ⟨y, hy⟩ := r.here ha
    have q : a ∉ [p] := fun q => by
      rw [List.mem_singleton.mp q, hp] at hy
      cases hy
    rw [addF_out q]
    exact r2.off i a ha
/-- a name's own flat thing is changed -/
theorem Rp.mut (r : Rp c H0 Fr H σ env as) {i : Nat} {o o' : O} {a : Addr} {x : HO} (e : slot env i = some o) (ha : as i = [a]) (h : ∀ v, σ[i]? = some (some v) → OwnR c H0 H o v [a] → OwnR c H0 (upd H a x) o' v [a]) :
    Rp c H0 Fr (upd H a x) σ (env.set i (some o')) as := by
  have hl := slot_lt e
  have hm : a ∈ as i := by rw [ha]; simp
  refine ⟨by simpa using r.len, ?_, ?_, ?_, r.off, r.sep, r.nd, ?_, r.tab.re (Same.refl _) (fun p q => upd_ne (r.tab.ne_as q hm)) r.tab.n0 r.tab.nF r.tab.na⟩
  · intro b y hb
    rw [upd_ne (ne_of_none hb (r.off i a hm).1)]
    exact r.sub b y hb
  · intro b y hb
    rw [upd_ne (ne_of_none hb (r.off i a hm).2)]
    exact r.fr b y hb
  · intro j o2 ej
    rw [slot_set hl] at ej
    by_cases q : j = i
    · rw [if_pos q] at ej
      cases ej
      subst q
      obtain ⟨v, g1, g2⟩ := r.own j o e
      rw [ha] at g2
      exact ⟨v, g1, by rw [ha]; exact h v g1 g2⟩
    · rw [if_neg q] at ej
      obtain ⟨v, g1, g2⟩ := r.own j o2 ej
      exact ⟨v, g1, OwnR.mono (fun _ _ z => z) o2 v _ (fun b hb => upd_ne fun z => q (r.sep j i b hb (z ▸ hm))) g2⟩
  · intro j ej
    rw [slot_set hl] at ej
    by_cases q : j = i
    · rw [if_pos q] at ej
      cases ej
    · rw [if_neg q] at ej
      exact r.emp j ej
end
end F
end

section
set_option Elab.async false
set_option linter.all false
set_option maxRecDepth 100000
/-! F layer, part C: expressions and tests. -/
namespace F
open PySem PySem.Spec PyProof.Rows L2
/-- what is laid of classes: their addresses, their fields, an exception's field -/
structure Tb where
  cls : Nat → Addr
  fld : Nat → List Str
  xf : Nat → Str
  tabs : List (Addr × Option Str)
  ex : Nat → D → V → Hp → Prop
  exM : ∀ (k : Nat) (d : D) (v : V) (H H' : Hp), Same H H' → ex k d v H → ex k d v H'
  exR : ∀ (k : Nat) (d : D) (v : V) (H : Hp), ex k d v H → ∃ a, v = .ref a
abbrev cn (X : Cx) (t : Tb) : Cn := ⟨X.K, t.cls, t.fld, t.tabs, t.ex, t.exM, t.exR⟩
/-- how an exception of the class k with the payload p lies -/
def ExA (t : Tb) (c : Cn) (H0 H : Hp) (k : Nat) (p : D) (cls : Value) (dx : Option Addr) : Prop :=
  cls = .ref (t.cls k) ∧ ((∃ d v, dx = some d ∧ H0 d = some (.xd [(t.xf k, v)]) ∧ Dat c H0 p v) ∨ (dx = none ∧ p = .non ∧ t.xf k = Str.empty))
/-- an answer lies so -/
def RpR (c : Cn) (H0 Fr H : Hp) (σ : St) (e : Env) (v : V) : R → Prop
  | .d x => (∃ as, Rp c H0 Fr H σ e as) ∧ Dat c H0 x v
  | .sl i => (∃ as, Rp c H0 Fr H σ e as) ∧ σ[i]? = some (some v)
  | .ow o => Rp1 c H0 Fr H σ e v o
/-- the top of a thing stands in H, its parts are shared -/
def Dat1 (c : Cn) (H0 H : Hp) : D → V → Prop
  | .tup l, v => l.length ≤ lim ∧ ∃ a vs, v = .ref a ∧ SqT c.K H a vs ∧ Dats c H0 l vs
  | .lst l, v => l.length ≤ lim ∧ ∃ a vs, v = .ref a ∧ SqL c.K H a vs ∧ Dats c H0 l vs
  | .dct l, v => l.length ≤ lim ∧ ∃ a kvs, v = .ref a ∧ Rd H a (.dK kvs) ∧ DatK c H0 l kvs
  | .obj k l, v => ∃ a dx fs, v = .ref a ∧ H a = some (.ins (c.cls k) dx fs) ∧ fs.map (·.1) = (c.fld k).take l.length ∧ Dats c H0 l (fs.map (·.2))
  | d, v => Dat c H0 d v
theorem Dat.d1 {c : Cn} {H0 H : Hp} (s : Same H0 H) : ∀ {d : D} {v : V}, Dat c H0 d v → Dat1 c H0 H d v
  | .non, _, h => h
  | .bl _, _, h => h
  | .int _, _, h => h
  | .str _, _, h => h
  | .tup l, _, ⟨hl, a, vs, h1, h2, h3⟩ => ⟨hl, a, vs, h1, SqT.same s h2, h3⟩
  | .lst l, _, ⟨hl, a, vs, h1, h2, h3⟩ => ⟨hl, a, vs, h1, SqL.same s h2, h3⟩
  | .dct l, _, ⟨hl, a, kvs, h1, h2, h3⟩ => ⟨hl, a, kvs, h1, Rd.same s h2, h3⟩
  | .obj k l, _, ⟨a, dx, fs, h1, h2, h3, h4⟩ => ⟨a, dx, fs, h1, s _ _ h2, h3, h4⟩
  | .ex k d, _, h => h
theorem Dat1.dat {c : Cn} {H0 H : Hp} (s : Same H0 H) : ∀ {d : D} {v : V}, Dat1 c H0 H d v → Dat c H d v
  | .non, _, h => h
  | .bl _, _, h => h
  | .int _, _, h => h
  | .str _, _, h => h
  | .tup l, _, ⟨hl, a, vs, h1, h2, h3⟩ => ⟨hl, a, vs, h1, h2, Dats.mono s _ _ h3⟩
  | .lst l, _, ⟨hl, a, vs, h1, h2, h3⟩ => ⟨hl, a, vs, h1, h2, Dats.mono s _ _ h3⟩
  | .dct l, _, ⟨hl, a, kvs, h1, h2, h3⟩ => ⟨hl, a, kvs, h1, h2, DatK.mono s _ _ h3⟩
  | .obj k l, _, ⟨a, dx, fs, h1, h2, h3, h4⟩ => ⟨a, dx, fs, h1, h2, h3, Dats.mono s _ _ h4⟩
  | .ex k d, _, h => c.exM k d _ _ _ s h
theorem OwnR.d1 {c : Cn} {H0 H : Hp} (s : Same H0 H) {o : O} {v : V} {as : List Addr} {d : D} (h : OwnR c H0 H o v as) (e : o.pk = some d) : Dat1 c H0 H d v := by
  cases o with
  | sh x =>
    cases e
    exact Dat.d1 s h.2
  | fl l =>
    cases e
    obtain ⟨hl, a, vs, h1, h2, h3, h4⟩ := h
    exact ⟨hl, a, vs, h1, SqL.of h3, h4⟩
  | fd l =>
    cases e
    obtain ⟨hl, a, vs, h1, h2, h3, h4⟩ := h
    exact ⟨hl, a, vs, h1, .inl h3, h4⟩
  | fo k os => cases e
/-- an answer held while others are reckoned -/
def Kp (c : Cn) (H0 : Hp) (σ : St) (v : V) : R → Prop
  | .d x => Dat c H0 x v
  | .sl i => σ[i]? = some (some v)
  | .ow _ => False
section
variable {c : Cn} {H0 H1 Fr H : Hp} {σ : St} {e : Env} {v : V} {r : R}
theorem Kp.mono (s : Same H0 H1) (h : Kp c H0 σ v r) : Kp c H1 σ v r := by
  cases r with
  | d x => exact Dat.mono s _ _ h
  | sl i => exact h
  | ow o => exact h
theorem RpR.rp (h : RpR c H0 Fr H σ e v r) : ∃ as, Rp c H0 Fr H σ e as := by
  cases r with
  | d x => exact h.1
  | sl i => exact h.1
  | ow o => exact Rp1.rp h
theorem RpR.keep (h : RpR c H0 Fr H σ e v r) : ∃ H2 as, Same H0 H2 ∧ Rp c H2 Fr H σ e as ∧ Kp c H2 σ v (nrm r) := by
  cases r with
  | d x =>
    obtain ⟨⟨as, h1⟩, h2⟩ := h
    exact ⟨H0, as, Same.refl _, h1, h2⟩
  | sl i =>
    obtain ⟨⟨as, h1⟩, h2⟩ := h
    exact ⟨H0, as, Same.refl _, h1, h2⟩
  | ow o =>
    obtain ⟨H2, as, s, h1, h2⟩ := Rp1.freeze h
    exact ⟨H2, as, s, h1, h2⟩
theorem Kp.peek {as : Nat → List Addr} (rp : Rp c H0 Fr H σ e as) (k : Kp c H0 σ v r) {d : D} (h : peek r e = some d) : Dat1 c H0 H d v := by
  cases r with
  | d x =>
    cases h
    exact Dat.d1 rp.sub k
  | sl i =>
    have h : (slot e i).bind O.pk = some d := h
    cases q : slot e i with
    | none =>
      rw [q] at h
      cases h
    | some o =>
      rw [q] at h
      obtain ⟨w, h1, h2⟩ := rp.own i o q
      have k : σ[i]? = some (some v) := k
      rw [h1] at k
      cases k
      exact OwnR.d1 rp.sub h2 h
  | ow o => exact k.elim
/-- an operand at the end -/
theorem RpR.peek (h : RpR c H0 Fr H σ e v r) {d : D} (hp : peek r e = some d) : ∃ H2 as, Same H0 H2 ∧ Rp c H2 Fr H σ e as ∧ Dat1 c H2 H d v := by
  cases r with
  | d x =>
    obtain ⟨⟨as, h1⟩, h2⟩ := h
    exact ⟨H0, as, Same.refl _, h1, Kp.peek (r := .d x) h1 h2 hp⟩
  | sl i =>
    obtain ⟨⟨as, h1⟩, h2⟩ := h
    exact ⟨H0, as, Same.refl _, h1, Kp.peek (r := .sl i) h1 h2 hp⟩
  | ow o =>
    obtain ⟨H2, as, s, h1, h2⟩ := Rp1.freeze h
    have hp : o.pk = some d := hp
    refine ⟨H2, as, s, h1, ?_⟩
    have : o.frz = d := by
      cases o <;> cases hp <;> rfl
    rw [← this]
    exact Dat.d1 h1.sub h2
/-- an answer is kept -/
theorem RpR.leak (h : RpR c H0 Fr H σ e v r) {d : D} {e' : Env} (hl : leak r e = .ok d e') : ∃ H2 as, Same H0 H2 ∧ Rp c H2 Fr H σ e' as ∧ Dat c H2 d v := by
  cases r with
  | d x =>
    cases hl
    obtain ⟨⟨as, h1⟩, h2⟩ := h
    exact ⟨H0, as, Same.refl _, h1, h2⟩
  | sl i =>
    obtain ⟨⟨as, h1⟩, h2⟩ := h
    have hl : (match slot e i with
      | some o => Rs.ok o.frz (e.set i (some (.sh o.frz)))
      | none => .bad) = .ok d e' := hl
    cases q : slot e i with
    | none =>
      rw [q] at hl
      cases hl
    | some o =>
      rw [q] at hl
      cases hl
      obtain ⟨H2, w, s, h3, h4, h5⟩ := h1.freeze q
      rw [h2] at h4
      cases h4
      exact ⟨H2, _, s, h3, h5⟩
  | ow o =>
    cases hl
    obtain ⟨H2, as, s, h1, h2⟩ := Rp1.freeze h
    exact ⟨H2, as, s, h1, h2⟩
theorem leak_ok {e' : Env} (h : RpR c H0 Fr H σ e v r) : (∃ d e1, leak r e = .ok d e1) ∨ leak r e = .bad := by
  cases r with
  | d x => exact .inl ⟨_, _, rfl⟩
  | sl i =>
    show (∃ d e1, (match slot e i with
      | some o => Rs.ok o.frz (e.set i (some (.sh o.frz)))
      | none => .bad) = .ok d e1) ∨ (match slot e i with
      | some o => Rs.ok o.frz (e.set i (some (.sh o.frz)))
      | none => .bad) = .bad
    cases slot e i with
    | none => exact .inr rfl
    | some o => exact .inl ⟨_, _, rfl⟩
  | ow o => exact .inl ⟨_, _, rfl⟩
end
/-! ### the readings -/
/-- what a run of a plain function must give: RR how its answer lies, Q what is wanted -/
def Po {α β : Type} (t : Tb) (c : Cn) (W : WX) (Fr : Hp) (σ : St) (H0 : Hp) (RR : Hp → Hp → Env → β → α → Prop) (Q : β → Hp → Prop) : Rs α → Prop
  | .ok a e => ∀ b H1 H', Same H0 H1 → RR H1 H' e b a → Q b H'
  | .ex k p e => ∀ H1 H' as cls dx, Same H0 H1 → Rp c H1 Fr H' σ e as → ExA t c H1 H' k p cls dx → W cls dx σ H'
  | .bad => False
def tG {α β : Type} (t : Tb) (c : Cn) (W : WX) (RR : Hp → St → Hp → Hp → Env → β → α → Prop) (m : M α) : St → Hp → (β → Hp → Prop) → Prop := fun σ H Q =>
  ∃ (e : Env) (H0 Fr : Hp) (as : Nat → List Addr), Rp c H0 Fr H σ e as ∧ Po t c W Fr σ H0 (RR Fr σ) Q (m e)
def rrR (c : Cn) : Hp → St → Hp → Hp → Env → V → R → Prop := fun Fr σ H1 H' e v r => RpR c H1 Fr H' σ e v r
def rrB (c : Cn) : Hp → St → Hp → Hp → Env → Bool → Bool → Prop := fun Fr σ H1 H' e b a => b = a ∧ ∃ as, Rp c H1 Fr H' σ e as
def Kps (c : Cn) (H0 : Hp) (σ : St) : List V → List R → Prop
  | [], rs => rs = []
  | v :: vs, rs => ∃ r qs, rs = r :: qs ∧ Kp c H0 σ v r ∧ Kps c H0 σ vs qs
def rrRs (c : Cn) : Hp → St → Hp → Hp → Env → List V → List R → Prop := fun Fr σ H1 H' e vs rs => (∃ as, Rp c H1 Fr H' σ e as) ∧ Kps c H1 σ vs rs
def rrDs (c : Cn) : Hp → St → Hp → Hp → Env → List V → List D → Prop := fun Fr σ H1 H' e vs ds => (∃ as, Rp c H1 Fr H' σ e as) ∧ Dats c H1 ds vs
abbrev tI (X : Cx) (t : Tb) (W : WX) (m : M R) : TE := tG t (cn X t) W (rrR (cn X t)) m
abbrev SE (X : Cx) (t : Tb) (W : WX) (e : Expr) (m : M R) : Prop := PE X e (tI X t W m)
abbrev SB (X : Cx) (t : Tb) (W : WX) (e : Expr) (m : M Bool) : Prop := PT X e (tG t (cn X t) W (rrB (cn X t)) m)
abbrev SW (X : Cx) (t : Tb) (W : WX) (e : Expr) (m : M Bool) : Prop := PW X e (tG t (cn X t) W (rrB (cn X t)) m)
abbrev SA (X : Cx) (t : Tb) (W : WX) (es : List Expr) (m : M (List R)) : Prop := PA X es (tG t (cn X t) W (rrRs (cn X t)) m)
abbrev SD (X : Cx) (t : Tb) (W : WX) (es : List Expr) (m : M (List D)) : Prop := PA X es (tG t (cn X t) W (rrDs (cn X t)) m)
theorem PE.imp {X : Cx} {e : Expr} {u u' : TE} (h : PE X e u) (k : ∀ σ H Q, u' σ H Q → u σ H Q) : PE X e u' := ⟨fun pins s σ H Q I q => h.run pins s σ H Q I (k _ _ _ q)⟩
theorem PT.imp {X : Cx} {e : Expr} {u u' : TT} (h : PT X e u) (k : ∀ σ H Q, u' σ H Q → u σ H Q) : PT X e u' := ⟨fun pins s σ H Q I q => h.run pins s σ H Q I (k _ _ _ q)⟩
theorem PW.imp {X : Cx} {e : Expr} {u u' : TT} (h : PW X e u) (k : ∀ σ H Q, u' σ H Q → u σ H Q) : PW X e u' := ⟨fun wh pins s σ H Q I q => h.run wh pins s σ H Q I (k _ _ _ q)⟩
theorem PA.imp {X : Cx} {es : List Expr} {u u' : TA} (h : PA X es u) (k : ∀ σ H Q, u' σ H Q → u σ H Q) : PA X es u' := ⟨fun pos pins s σ H Q I q => h.run pos pins s σ H Q I (k _ _ _ q)⟩
section
variable {α β γ δ : Type} {t : Tb} {c : Cn} {W : WX}
theorem Po.mono {RR : Hp → Hp → Env → β → α → Prop} {Q : β → Hp → Prop} {Fr H0 H1 : Hp} {σ : St} {x : Rs α} (s : Same H0 H1) (h : Po t c W Fr σ H0 RR Q x) : Po t c W Fr σ H1 RR Q x := by
  cases x with
  | ok a e => exact fun b H2 H' s2 rr => h b H2 H' (s.trans s2) rr
  | ex k p e => exact fun H2 H' as cls dx s2 rp xa => h H2 H' as cls dx (s.trans s2) rp xa
  | bad => exact h
/-- one run behind another -/
theorem Po.bind {RR : Hp → Hp → Env → β → α → Prop} {RS : Hp → Hp → Env → δ → γ → Prop} {x : Rs α} {f : α → Env → Rs γ} {σ : St} {Fr H0 : Hp} {Q : δ → Hp → Prop} {k : β → Hp → Prop}
    (po : Po t c W Fr σ H0 RS Q (andThen x f)) (hk : ∀ (a : α) (e : Env) (b : β) (H1 H' : Hp), Same H0 H1 → RR H1 H' e b a → Po t c W Fr σ H1 RS Q (f a e) → k b H') : Po t c W Fr σ H0 RR k x := by
  cases x with
  | ok a e1 => exact fun b H1 H' s rr => hk a e1 b H1 H' s rr (Po.mono s po)
  | ex k' p e1 => exact po
  | bad => exact po
/-- an option that must be there -/
theorem Po.ofO {RR : Hp → Hp → Env → β → α → Prop} {Q : β → Hp → Prop} {Fr H0 : Hp} {σ : St} {x : Option γ} {f : γ → Rs α} (h : Po t c W Fr σ H0 RR Q (ofO x f)) : ∃ a, x = some a ∧ Po t c W Fr σ H0 RR Q (f a) := by
  cases x with
  | none => exact h.elim
  | some a => exact ⟨a, rfl, h⟩
/-- the answer is there -/
theorem Po.ret {RR : Hp → Hp → Env → β → α → Prop} {Q : β → Hp → Prop} {Fr H0 H1 H' : Hp} {σ : St} {a : α} {e : Env} {b : β} (h : Po t c W Fr σ H0 RR Q (.ok a e)) (s : Same H0 H1) (rr : RR H1 H' e b a) : Q b H' := h b H1 H' s rr
theorem Po.tG {RR : Hp → St → Hp → Hp → Env → β → α → Prop} {Q : β → Hp → Prop} {Fr H0 H1 H : Hp} {σ : St} {m : M α} {e : Env} {as : Nat → List Addr} (h : Po t c W Fr σ H0 (RR Fr σ) Q (m e)) (s : Same H0 H1) (rp : Rp c H1 Fr H σ e as) : tG t c W RR m σ H Q :=
  ⟨e, H1, Fr, as, rp, h.mono s⟩
end
/-! ### names and constants -/
section
variable {X : Cx} {t : Tb} {W : WX}
theorem se_var {x : Str} {pos : Pos} {i : Nat} (h : PE X (.Name x pos) (tVar i)) : SE X t W (.Name x pos) (mVar i) := by
  refine PE.imp h fun σ H Q ⟨e, H0, Fr, as, rp, po⟩ => ?_
  have po : Po t (cn X t) W Fr σ H0 (rrR (cn X t) Fr σ) Q (match slot e i with
    | some _ => .ok (.sl i) e
    | none => .bad) := po
  cases q : slot e i with
  | none =>
    rw [q] at po
    exact po.elim
  | some o =>
    rw [q] at po
    obtain ⟨v, h1, h2⟩ := rp.own i o q
    exact ⟨v, h1, po v H0 H (Same.refl _) ⟨⟨as, rp⟩, h1⟩⟩
theorem se_k {e : Expr} {v : V} {d : D} (h : PE X e (tC v)) (hd : ∀ H, Dat (cn X t) H d v) : SE X t W e (mC d) := by
  refine PE.imp h fun σ H Q ⟨e, H0, Fr, as, rp, po⟩ => ?_
  exact po v H0 H (Same.refl _) ⟨⟨as, rp⟩, hd H0⟩
theorem se_int {i : Int} {j pos} : SE X t W (.Constant (.int i) j pos) (mC (.int i)) := se_k pe_int fun _ => rfl
theorem se_bl {b : Bool} {j pos} : SE X t W (.Constant (.bool b) j pos) (mC (.bl b)) := se_k pe_bl fun _ => rfl
theorem se_non {j pos} : SE X t W (.Constant .none j pos) (mC .non) := se_k pe_non fun _ => rfl
theorem se_str {x : Str} {l : List Nat} {j pos} (h : x = sS l := by decide +kernel) (hl : l.length ≤ lim := by decide) : SE X t W (.Constant (.str x) j pos) (mC (.str l)) := se_k pe_str fun _ => ⟨by rw [h], hl⟩
theorem se_gint {x : Str} {i : Int} {pos : Pos} (hg : Gl X x) (hm : ∃ u, X.mg x = some (.int i u)) (hd : (x == ("__debug__" : Str)) = false := by decide) : SE X t W (.Name x pos) (mC (.int i)) := by
  obtain ⟨u, hm⟩ := hm
  exact se_k (pe_glob (v := .int i) hg hm ⟨u, rfl⟩ hd) fun _ => rfl
theorem se_gstr {x : Str} {l : List Nat} {pos : Pos} (hg : Gl X x) (hm : ∃ u, X.mg x = some (.str (sS l) u)) (hl : l.length ≤ lim := by decide) (hd : (x == ("__debug__" : Str)) = false := by decide) : SE X t W (.Name x pos) (mC (.str l)) := by
  obtain ⟨u, hm⟩ := hm
  exact se_k (pe_glob (v := .str (sS l)) hg hm ⟨u, rfl⟩ hd) fun _ => ⟨rfl, hl⟩
theorem se_gref {x : Str} {a : Addr} {d : D} {pos : Pos} (hg : Gl X x) (hm : X.mg x = some (.ref a)) (hd2 : ∀ H, Dat (cn X t) H d (.ref a)) (hd : (x == ("__debug__" : Str)) = false := by decide) : SE X t W (.Name x pos) (mC d) :=
  se_k (pe_glob (v := .ref a) hg hm rfl hd) hd2
end
/-! ### operations by values -/
/-- what an operation's answer may be: shared data as it stands, or a new object -/
def Out (c : Cn) (H0 H : Hp) (d : D) (Q : VK) : Prop := (∀ z, Dat c H0 d z → Q z H) ∧ ∀ p o, H p = none → Dat c (upd H0 p o) d (.ref p) → Q (.ref p) (upd H p o)
def VOp1 (c : Cn) (r : V → Hp → VK → Prop) (f : D → Option D) : Prop := ∀ (H0 H : Hp) (x : V) (dx dz : D) (Q : VK), Same H0 H → f dx = some dz → Dat1 c H0 H dx x → Out c H0 H dz Q → r x H Q
def VOp2 (c : Cn) (r : R2) (f : D → D → Option D) : Prop := ∀ (H0 H : Hp) (x y : V) (dx dy dz : D) (Q : VK), Same H0 H → f dx dy = some dz → Dat1 c H0 H dx x → Dat1 c H0 H dy y → Out c H0 H dz Q → r x y H Q
/-- a new list -/
def NewL (c : Cn) (H0 H : Hp) (l : List D) (Q : VK) : Prop := ∀ p vs, H p = none → l.length ≤ lim → Dats c H0 l vs → Q (.ref p) (upd H p (.lst vs))
def LOp1 (c : Cn) (r : V → Hp → VK → Prop) (f : D → Option (List D)) : Prop := ∀ (H0 H : Hp) (x : V) (dx : D) (l : List D) (Q : VK), Same H0 H → f dx = some l → Dat1 c H0 H dx x → NewL c H0 H l Q → r x H Q
def LOp2 (c : Cn) (r : R2) (f : D → D → Option (List D)) : Prop := ∀ (H0 H : Hp) (x y : V) (dx dy : D) (l : List D) (Q : VK), Same H0 H → f dx dy = some l → Dat1 c H0 H dx x → Dat1 c H0 H dy y → NewL c H0 H l Q → r x y H Q
section
variable {t : Tb} {c : Cn} {W : WX} {Fr H0 H : Hp} {σ : St} {e : Env} {as : Nat → List Addr} {Q : VK}
theorem Po.out {d : D} (h : Po t c W Fr σ H0 (rrR c Fr σ) Q (.ok (.d d) e)) (rp : Rp c H0 Fr H σ e as) : Out c H0 H d Q :=
  ⟨fun z hz => h z H0 H (Same.refl _) ⟨⟨as, rp⟩, hz⟩, fun p o hp hd => h (.ref p) _ _ (rp.alloc hp).1 ⟨⟨as, (rp.alloc hp).2⟩, hd⟩⟩
theorem Po.newL {l : List D} (h : Po t c W Fr σ H0 (rrR c Fr σ) Q (.ok (.ow (.fl l)) e)) (rp : Rp c H0 Fr H σ e as) : NewL c H0 H l Q :=
  fun p vs hp hl hd => h (.ref p) H0 _ (Same.refl _) (rp.new hp ⟨hl, p, vs, rfl, rfl, upd_same, hd⟩)
end
section
variable {X : Cx} {t : Tb} {W : WX} {a b : Expr} {ma mb : M R}
/-- the step behind one operand -/
theorem tI_op1 {r : V → Hp → VK → Prop} {f : D → Option D} (h : VOp1 (cn X t) r f) {σ : St} {H : Hp} {Q : VK} (q : tI X t W (mOp1 f ma) σ H Q) : tI X t W ma σ H fun x H1 => r x H1 Q := by
  obtain ⟨e, H0, Fr, as, rp, po⟩ := q
  refine ⟨e, H0, Fr, as, rp, po.bind fun ra e1 v H1 H' s rr po => ?_⟩
  obtain ⟨dx, e1, po⟩ := po.ofO
  obtain ⟨dz, e2, po⟩ := po.ofO
  obtain ⟨H2, as, s2, rp, hd⟩ := RpR.peek rr e1
  exact h H2 H' v dx dz Q rp.sub e2 hd ((po.mono s2).out rp)
theorem tI_op2 {r : R2} {f : D → D → Option D} (h : VOp2 (cn X t) r f) {σ : St} {H : Hp} {Q : VK} (q : tI X t W (mOp2 f ma mb) σ H Q) : tOp r (tI X t W ma) (tI X t W mb) σ H Q := by
  obtain ⟨e, H0, Fr, as, rp, po⟩ := q
  refine ⟨e, H0, Fr, as, rp, po.bind fun ra e1 v H1 H' s rr po => ?_⟩
  obtain ⟨H2, as, s2, rp, kp⟩ := RpR.keep rr
  refine ⟨e1, H2, Fr, as, rp, (po.mono s2).bind fun rb e2 w H3 H'' s3 rr2 po => ?_⟩
  obtain ⟨dx, q1, po⟩ := po.ofO
  obtain ⟨dy, q2, po⟩ := po.ofO
  obtain ⟨dz, q3, po⟩ := po.ofO
  obtain ⟨H4, as, s4, rp, hd⟩ := RpR.peek rr2 q2
  exact h H4 H'' v w dx dy dz Q rp.sub q3 ((kp.mono (s3.trans s4)).peek rp q1) hd ((po.mono s4).out rp)
theorem tI_ol1 {r : V → Hp → VK → Prop} {f : D → Option (List D)} (h : LOp1 (cn X t) r f) {σ : St} {H : Hp} {Q : VK} (q : tI X t W (mOl1 f ma) σ H Q) : tI X t W ma σ H fun x H1 => r x H1 Q := by
  obtain ⟨e, H0, Fr, as, rp, po⟩ := q
  refine ⟨e, H0, Fr, as, rp, po.bind fun ra e1 v H1 H' s rr po => ?_⟩
  obtain ⟨dx, e1, po⟩ := po.ofO
  obtain ⟨dz, e2, po⟩ := po.ofO
  obtain ⟨H2, as, s2, rp, hd⟩ := RpR.peek rr e1
  exact h H2 H' v dx dz Q rp.sub e2 hd ((po.mono s2).newL rp)
theorem tI_ol2 {r : R2} {f : D → D → Option (List D)} (h : LOp2 (cn X t) r f) {σ : St} {H : Hp} {Q : VK} (q : tI X t W (mOl2 f ma mb) σ H Q) : tOp r (tI X t W ma) (tI X t W mb) σ H Q := by
  obtain ⟨e, H0, Fr, as, rp, po⟩ := q
  refine ⟨e, H0, Fr, as, rp, po.bind fun ra e1 v H1 H' s rr po => ?_⟩
  obtain ⟨H2, as, s2, rp, kp⟩ := RpR.keep rr
  refine ⟨e1, H2, Fr, as, rp, (po.mono s2).bind fun rb e2 w H3 H'' s3 rr2 po => ?_⟩
  obtain ⟨dx, q1, po⟩ := po.ofO
  obtain ⟨dy, q2, po⟩ := po.ofO
  obtain ⟨dz, q3, po⟩ := po.ofO
  obtain ⟨H4, as, s4, rp, hd⟩ := RpR.peek rr2 q2
  exact h H4 H'' v w dx dy dz Q rp.sub q3 ((kp.mono (s3.trans s4)).peek rp q1) hd ((po.mono s4).newL rp)
variable {pos : Pos}
theorem se_un {op : UnaryOp} {r : V → Hp → VK → Prop} {f : D → Option D} (ho : UnR X (unaryOp op) r) (h : VOp1 (cn X t) r f) (ha : SE X t W a ma) : SE X t W (.UnaryOp op a pos) (mOp1 f ma) := PE.imp (pe_un ho ha) fun _ _ _ q => tI_op1 h q
theorem se_op {op : Operator} {r : R2} {f : D → D → Option D} (ho : OpR X (binaryOp op) r) (h : VOp2 (cn X t) r f) (ha : SE X t W a ma) (hb : SE X t W b mb) : SE X t W (.BinOp a op b pos) (mOp2 f ma mb) := PE.imp (pe_op ho ha hb) fun _ _ _ q => tI_op2 h q
theorem se_opL {op : Operator} {r : R2} {f : D → D → Option (List D)} (ho : OpR X (binaryOp op) r) (h : LOp2 (cn X t) r f) (ha : SE X t W a ma) (hb : SE X t W b mb) : SE X t W (.BinOp a op b pos) (mOl2 f ma mb) := PE.imp (pe_op ho ha hb) fun _ _ _ q => tI_ol2 h q
theorem se_cmp {op : CmpOp} {r : R2} {f : D → D → Option D} (ho : OpR X (compareOp op) r) (h : VOp2 (cn X t) r f) (ha : SE X t W a ma) (hb : SE X t W b mb) (hm : behindInMarks op b = false) : SE X t W (.Compare a [op] [b] pos) (mOp2 f ma mb) :=
  PE.imp (pe_cmpR ho ha hb hm) fun _ _ _ q => tI_op2 h q
theorem se_ix {r : R2} {f : D → D → Option D} (hr : IxR X r) (h : VOp2 (cn X t) r f) (ha : SE X t W a ma) (hb : SE X t W b mb) (hs : PlainIx b) : SE X t W (.Subscript a b pos) (mOp2 f ma mb) := PE.imp (pe_ix hr ha hb hs) fun _ _ _ q => tI_op2 h q
/-! ### tests -/
/-- the value of a test is a bool -/
theorem tG_tb {σ : St} {H : Hp} {Q : Bool → Hp → Prop} (q : tG t (cn X t) W (rrB (cn X t)) (mTB ma) σ H Q) : tI X t W ma σ H fun x H' => ∃ k, x = .bl k ∧ Q k H' := by
  obtain ⟨e, H0, Fr, as, rp, po⟩ := q
  refine ⟨e, H0, Fr, as, rp, po.bind fun ra e1 v H1 H' s rr po => ?_⟩
  cases q : peek ra e1 with
  | none =>
    rw [q] at po
    exact po.elim
  | some d =>
    rw [q] at po
    cases d with
    | bl b =>
      obtain ⟨H2, as, s2, rp, hd⟩ := RpR.peek rr q
      exact ⟨b, hd, (po.mono s2).ret (Same.refl _) ⟨rfl, as, rp⟩⟩
    | _ => exact po.elim
theorem sb_val (ha : SE X t W a ma) (he : ∀ whole, isTrue a X.env whole = (do let v ← whole; standAt a.pos; holding [v] (truthy v)) := by intro _; rfl) : SB X t W a (mTB ma) := PT.imp (pt_val ha he) fun _ _ _ q => tG_tb q
theorem sb_cmp {op : CmpOp} {r : R2} {f : D → D → Option D} (ho : OpR X (compareOp op) r) (h : VOp2 (cn X t) r f) (ha : SE X t W a ma) (hb : SE X t W b mb) (hm : behindInMarks op b = false) : SB X t W (.Compare a [op] [b] pos) (mTB (mOp2 f ma mb)) :=
  PT.imp (pt_cmpR ho ha hb hm) fun _ _ _ q => tI_op2 h (tG_tb q)
theorem tru_of {c : Cn} {H0 H : Hp} {d : D} {v : V} {k : Bool} (h : Dat1 c H0 H d v) (e : truD d = some k) : TruV c.K v H k := by
  cases d with
  | non =>
    cases h
    cases e
    rfl
  | bl b =>
    cases h
    cases e
    rfl
  | int i =>
    cases h
    cases e
    rfl
  | str x =>
    obtain ⟨rfl, hl⟩ := h
    cases e
    refine ⟨?_, ?_⟩
    · show (sS x).cps.size ≤ sizeLine
      simpa [sS, sizeLine_eq, lim] using hl
    · show _ = (((sS x).cps.size : Int) != 0)
      cases x <;> simp [sS] <;> omega
  | lst l =>
    obtain ⟨_, a, vs, rfl, h2, h3⟩ := h
    cases e
    refine .inl ⟨vs, h2, ?_⟩
    have := h3.len
    cases l <;> cases vs <;> simp at this <;> rfl
  | tup l =>
    obtain ⟨_, a, vs, rfl, h2, h3⟩ := h
    cases e
    refine .inr (.inl ⟨vs, h2, ?_⟩)
    have := h3.len
    cases l <;> cases vs <;> simp at this <;> rfl
  | _ => cases e
theorem sb_tru (ha : SE X t W a ma) (he : ∀ whole, isTrue a X.env whole = (do let v ← whole; standAt a.pos; holding [v] (truthy v)) := by intro _; rfl) : SB X t W a (mTru ma) := by
  refine PT.imp (pt_truth ha he) fun σ H Q ⟨e, H0, Fr, as, rp, po⟩ => ?_
  refine ⟨e, H0, Fr, as, rp, po.bind fun ra e1 v H1 H' s rr po => ?_⟩
  obtain ⟨d, q1, po⟩ := po.ofO
  obtain ⟨b, q2, po⟩ := po.ofO
  obtain ⟨H2, as, s2, rp, hd⟩ := RpR.peek rr q1
  exact ⟨b, tru_of hd q2, (po.mono s2).ret (Same.refl _) ⟨rfl, as, rp⟩⟩
variable {m1 m2 : M Bool} {rest : List Expr}
theorem sw_pt (h : SW X t W a m1) : SB X t W a m1 := h.pt
theorem sw_and1 (h : SB X t W a m1) : SW X t W (.BoolOp .And [a] pos) m1 := pw_and1 h
theorem sw_or1 (h : SB X t W a m1) : SW X t W (.BoolOp .Or [a] pos) m1 := pw_or1 h
theorem sw_and (h : SB X t W a m1) (h2 : SW X t W (.BoolOp .And (b :: rest) pos) m2) : SW X t W (.BoolOp .And (a :: b :: rest) pos) (mAnd m1 m2) := by
  refine PW.imp (pw_and h h2) fun σ H Q ⟨e, H0, Fr, as, rp, po⟩ => ?_
  refine ⟨e, H0, Fr, as, rp, po.bind fun x e1 k H1 H' s ⟨ek, as2, rp2⟩ po => ?_⟩
  subst ek
  cases k with
  | true => exact ⟨e1, H1, Fr, as2, rp2, po⟩
  | false => exact po.ret (Same.refl _) ⟨rfl, as2, rp2⟩
theorem sw_or (h : SB X t W a m1) (h2 : SW X t W (.BoolOp .Or (b :: rest) pos) m2) : SW X t W (.BoolOp .Or (a :: b :: rest) pos) (mOr m1 m2) := by
  refine PW.imp (pw_or h h2) fun σ H Q ⟨e, H0, Fr, as, rp, po⟩ => ?_
  refine ⟨e, H0, Fr, as, rp, po.bind fun x e1 k H1 H' s ⟨ek, as2, rp2⟩ po => ?_⟩
  subst ek
  cases k with
  | true => exact po.ret (Same.refl _) ⟨rfl, as2, rp2⟩
  | false => exact ⟨e1, H1, Fr, as2, rp2, po⟩
theorem sb_not (h : SB X t W a m1) : SB X t W (.UnaryOp .Not a pos) (mNot m1) := by
  refine PT.imp (pt_not h) fun σ H Q ⟨e, H0, Fr, as, rp, po⟩ => ?_
  refine ⟨e, H0, Fr, as, rp, po.bind fun x e1 k H1 H' s ⟨ek, as2, rp2⟩ po => ?_⟩
  subst ek
  exact po.ret (Same.refl _) ⟨rfl, as2, rp2⟩
theorem se_if {cnd : Expr} (h : SB X t W cnd m1) (ha : SE X t W a ma) (hb : SE X t W b mb) : SE X t W (.IfExp cnd a b pos) (mIf m1 ma mb) := by
  refine PE.imp (pe_ifExp h ha hb) fun σ H Q ⟨e, H0, Fr, as, rp, po⟩ => ?_
  refine ⟨e, H0, Fr, as, rp, po.bind fun x e1 k H1 H' s ⟨ek, as2, rp2⟩ po => ?_⟩
  subst ek
  cases k with
  | true => exact ⟨e1, H1, Fr, as2, rp2, po⟩
  | false => exact ⟨e1, H1, Fr, as2, rp2, po⟩
/-! ### and, or, not as values -/
theorem se_one {op : BoolOp} (h : SE X t W a ma) : SE X t W (.BoolOp op [a] pos) ma := pe_one h
theorem peek_bl {c : Cn} {ra : R} {e1 : Env} {γ δ : Type} {RS : Hp → Hp → Env → δ → γ → Prop} {Fr H0 : Hp} {σ : St} {Q : δ → Hp → Prop} {f : Bool → Rs γ}
    (po : Po t c W Fr σ H0 RS Q (match peek ra e1 with | some (.bl x) => f x | _ => .bad)) : ∃ b, peek ra e1 = some (.bl b) ∧ Po t c W Fr σ H0 RS Q (f b) := by
  cases q : peek ra e1 with
  | none =>
    rw [q] at po
    exact po.elim
  | some d =>
    rw [q] at po
    cases d with
    | bl b => exact ⟨b, rfl, po⟩
    | _ => exact po.elim
theorem se_and (ha : SE X t W a ma) (hb : SE X t W (.BoolOp .And (b :: rest) pos) mb) : SE X t W (.BoolOp .And (a :: b :: rest) pos) (mAndV ma mb) := by
  refine PE.imp (pe_and ha hb) fun σ H Q ⟨e, H0, Fr, as, rp, po⟩ => ?_
  refine ⟨e, H0, Fr, as, rp, po.bind fun ra e1 v H1 H' s rr po => ?_⟩
  obtain ⟨k, q1, po⟩ := peek_bl po
  obtain ⟨H2, as, s2, rp, hd⟩ := RpR.peek rr q1
  refine ⟨k, hd, ?_⟩
  cases k with
  | true => exact ⟨e1, H2, Fr, as, rp, po.mono s2⟩
  | false => exact (po.mono s2).ret (Same.refl _) ⟨⟨as, rp⟩, rfl⟩
/-! ### several in a row -/
variable {es : List Expr} {ms : List (M R)}
theorem sa_nil : SA X t W [] (mRs []) := by
  refine PA.imp pa_nil fun σ H Q ⟨e, H0, Fr, as, rp, po⟩ => ?_
  exact po [] H0 H (Same.refl _) ⟨⟨as, rp⟩, rfl⟩
theorem sa_cons (ha : SE X t W a ma) (hr : SA X t W es (mRs ms)) (hs : starEach (a :: es) X.env = (false, eval a X.env) :: starEach es X.env := by rfl) : SA X t W (a :: es) (mRs (ma :: ms)) := by
  refine PA.imp (pa_cons ha hr hs) fun σ H Q ⟨e, H0, Fr, as, rp, po⟩ => ?_
  refine ⟨e, H0, Fr, as, rp, Po.bind (f := fun r e1 => andThen (mRs ms e1) fun rs e2 => .ok (nrm r :: rs) e2) po fun ra e1 v H1 H' s rr po => ?_⟩
  obtain ⟨H2, as, s2, rp, kp⟩ := RpR.keep rr
  refine ⟨e1, H2, Fr, as, rp, (po.mono s2).bind fun rs e2 vs H3 H'' s3 ⟨rp3, ks⟩ po => ?_⟩
  exact po.ret (Same.refl _) ⟨rp3, _, _, rfl, kp.mono s3, ks⟩
theorem sd_nil : SD X t W [] (mLks []) := by
  refine PA.imp pa_nil fun σ H Q ⟨e, H0, Fr, as, rp, po⟩ => ?_
  exact po [] H0 H (Same.refl _) ⟨⟨as, rp⟩, rfl⟩
theorem Po.leak {c : Cn} {Fr H0 H : Hp} {σ : St} {ra : R} {e1 : Env} {v : V} {γ δ : Type} {RS : Hp → Hp → Env → δ → γ → Prop} {Q : δ → Hp → Prop} {f : D → Env → Rs γ}
    (po : Po t c W Fr σ H0 RS Q (andThen (leak ra e1) f)) (rr : RpR c H0 Fr H σ e1 v ra) : ∃ d e2 H2 as, leak ra e1 = .ok d e2 ∧ Same H0 H2 ∧ Rp c H2 Fr H σ e2 as ∧ Dat c H2 d v ∧ Po t c W Fr σ H2 RS Q (f d e2) := by
  rcases leak_ok (e' := e1) rr with ⟨d, e2, q⟩ | q
  · rw [q] at po
    obtain ⟨H2, as, s, rp, hd⟩ := RpR.leak rr q
    exact ⟨d, e2, H2, as, q, s, rp, hd, Po.mono s po⟩
  · rw [q] at po
    exact po.elim
theorem sd_cons (ha : SE X t W a ma) (hr : SD X t W es (mLks ms)) (hs : starEach (a :: es) X.env = (false, eval a X.env) :: starEach es X.env := by rfl) : SD X t W (a :: es) (mLks (ma :: ms)) := by
  refine PA.imp (pa_cons ha hr hs) fun σ H Q ⟨e, H0, Fr, as, rp, po⟩ => ?_
  refine ⟨e, H0, Fr, as, rp, Po.bind (f := fun r e1 => andThen (leak r e1) fun d e2 => andThen (mLks ms e2) fun ds e3 => .ok (d :: ds) e3) po fun ra e1 v H1 H' s rr po => ?_⟩
  obtain ⟨d, e2, H2, as, q, s2, rp, hd, po⟩ := po.leak rr
  refine ⟨e2, H2, Fr, as, rp, po.bind fun ds e3 vs H3 H'' s3 ⟨rp3, ks⟩ po => ?_⟩
  exact po.ret (Same.refl _) ⟨rp3, v, vs, rfl, Dat.mono s3 _ _ hd, ks⟩
theorem sizeLine_lim : sizeLine = lim := sizeLine_eq
theorem se_tup {x1} (h : SD X t W es (mLks ms)) : SE X t W (.Tuple es x1 pos) (mTup ms) := by
  refine PE.imp (pe_tup h) fun σ H Q ⟨e, H0, Fr, as, rp, po⟩ => ?_
  refine ⟨e, H0, Fr, as, rp, po.bind fun ds e1 vs H1 H' s ⟨⟨as, rp⟩, hd⟩ po => ?_⟩
  by_cases hl : ds.length ≤ lim
  · rw [if_pos hl] at po
    refine ⟨by rw [hd.len, sizeLine_lim]; exact hl, fun p hp => ?_⟩
    exact (po.out rp).2 p _ hp ⟨hl, p, vs, rfl, SqT.of upd_same, Dats.mono (rp.alloc (x := .tup vs) hp).1 _ _ hd⟩
  · rw [if_neg hl] at po
    exact po.elim
theorem se_lst (h : SD X t W es (mLks ms)) : SE X t W (.List es pos) (mLst ms) := by
  refine PE.imp (pe_lst h) fun σ H Q ⟨e, H0, Fr, as, rp, po⟩ => ?_
  refine ⟨e, H0, Fr, as, rp, po.bind fun ds e1 vs H1 H' s ⟨⟨as, rp⟩, hd⟩ po => ?_⟩
  by_cases hl : ds.length ≤ lim
  · rw [if_pos hl] at po
    exact ⟨by rw [hd.len, sizeLine_lim]; exact hl, fun p hp => po.newL rp p vs hp hl hd⟩
  · rw [if_neg hl] at po
    exact po.elim
end
end F
end

section
set_option Elab.async false
set_option linter.all false
set_option autoImplicit false
set_option maxRecDepth 100000
/-! F layer, part D: calls of defs. -/
namespace F
open PySem PySem.Spec PyProof.Rows L2
section
variable {c : Cn} {H0 Fr H : Hp} {σ τ : St} {e g : Env} {as : Nat → List Addr}
theorem slot_app_l {i : Nat} (h : i < e.length) : slot (e ++ g) i = slot e i := by
  unfold slot
  rw [List.getElem?_append_left h]
theorem slot_app_r {i : Nat} : slot (e ++ g) (e.length + i) = slot g i := by
  unfold slot
  rw [List.getElem?_append_right (Nat.le_add_right _ _), Nat.add_sub_cancel_left]
theorem slot_ge {i : Nat} (h : e.length ≤ i) : slot e i = none := by
  unfold slot
  rw [List.getElem?_eq_none h]
/-- one more slot, shared data -/
theorem Rp.snocSh (r : Rp c H0 Fr H σ e as) {d : D} {v : V} (h : Dat c H0 d v) : Rp c H0 Fr H (σ ++ [some v]) (e ++ [some (.sh d)]) as := by
  have hz : as e.length = [] := r.emp _ (slot_ge (Nat.le_refl _))
  refine ⟨by simp [r.len], r.sub, r.fr, fun i o q => ?_, r.off, r.sep, r.nd, fun i q => ?_, r.tab⟩
  · by_cases hi : i < e.length
    · rw [slot_app_l hi] at q
      obtain ⟨w, h1, h2⟩ := r.own i o q
      exact ⟨w, by rw [List.getElem?_append_left (by rw [← r.len]; exact hi)]; exact h1, h2⟩
    · have hl := slot_lt q
      have : i = e.length := by simp at hl; omega
      subst this
      have q : slot (e ++ [some (O.sh d)]) (e.length + 0) = some o := q
      rw [slot_app_r] at q
      cases q
      exact ⟨v, by rw [r.len]; simp, by rw [hz]; exact ⟨rfl, h⟩⟩
  · by_cases hi : i < e.length
    · rw [slot_app_l hi] at q
      exact r.emp i q
    · exact r.emp i (slot_ge (Nat.le_of_not_lt hi))
/-- the same things at other slots -/
theorem Rp.re (r : Rp c H0 Fr H σ e as) {σ' : St} {e' : Env} (hl : e'.length = σ'.length) (ρ : Nat → Nat) (h : ∀ i o, slot e' i = some o → slot e (ρ i) = some o ∧ σ'[i]? = σ[ρ i]?)
    (inj : ∀ i j o o', slot e' i = some o → slot e' j = some o' → ρ i = ρ j → i = j) : ∃ as', Rp c H0 Fr H σ' e' as' := by
  refine ⟨fun i => match slot e' i with | some _ => as (ρ i) | none => [], hl, r.sub, r.fr, fun i o q => ?_, fun i a ha => ?_, fun i j a ha hj => ?_, fun i => ?_, fun i q => ?_, r.tab.sub fun i a z => ?_⟩
  · obtain ⟨h1, h2⟩ := h i o q
    obtain ⟨v, h3, h4⟩ := r.own _ o h1
    exact ⟨v, by rw [h2]; exact h3, by simpa [q] using h4⟩
  · cases q : slot e' i with
    | none => simp [q] at ha
    | some o => exact r.off (ρ i) a (by simpa [q] using ha)
  · cases q : slot e' i with
    | none => simp [q] at ha
    | some o =>
      cases q2 : slot e' j with
      | none => simp [q2] at hj
      | some o2 => exact inj i j o o2 q q2 (r.sep _ _ a (by simpa [q] using ha) (by simpa [q2] using hj))
  · cases q : slot e' i with
    | none => simp
    | some o => simpa using r.nd (ρ i)
  · simp [q]
  · cases q : slot e' i with
    | none => simp [q] at z
    | some o => exact ⟨ρ i, by simpa [q] using z⟩
theorem get_app_l {α : Type} {l m : List α} {i : Nat} (h : i < l.length) : (l ++ m)[i]? = l[i]? := List.getElem?_append_left h
theorem get_app_r {α : Type} {l m : List α} {i : Nat} : (l ++ m)[l.length + i]? = m[i]? := by
  rw [List.getElem?_append_right (Nat.le_add_right _ _), Nat.add_sub_cancel_left]
/-- a name's thing goes to a further slot -/
theorem Rp.move (r : Rp c H0 Fr H (σ ++ τ) (e ++ g) as) (hl : e.length = σ.length) {i : Nat} {o : O} {v : V} (q : slot e i = some o) (hv : σ[i]? = some (some v)) :
    ∃ as', Rp c H0 Fr H (σ ++ (τ ++ [some v])) (e.set i none ++ (g ++ [some o])) as' := by
  have hi := slot_lt q
  have hg : g.length = τ.length := by
    have := r.len
    simp at this
    omega
  have key : ∀ j o', slot (e.set i none ++ (g ++ [some o])) j = some o' → (j < e.length ∧ j ≠ i ∧ slot e j = some o') ∨ (∃ k, j = e.length + k ∧ slot g k = some o') ∨ (j = e.length + g.length ∧ o' = o) := fun j o' z => by
    by_cases hj : j < e.length
    · rw [slot_app_l (by simpa using hj)] at z
      obtain ⟨z1, z2⟩ := slot_none z
      exact .inl ⟨hj, z1, z2⟩
    · obtain ⟨k, rfl⟩ : ∃ k, j = e.length + k := ⟨j - e.length, by omega⟩
      have z : slot (e.set i none ++ (g ++ [some o])) ((e.set i none).length + k) = some o' := by simpa using z
      rw [slot_app_r] at z
      by_cases hk : k < g.length
      · rw [slot_app_l hk] at z
        exact .inr (.inl ⟨k, rfl, z⟩)
      · obtain ⟨n, rfl⟩ : ∃ n, k = g.length + n := ⟨k - g.length, by omega⟩
        rw [slot_app_r] at z
        have hn := slot_lt z
        have : n = 0 := by simpa using hn
        subst this
        cases z
        exact .inr (.inr ⟨rfl, rfl⟩)
  refine r.re (by simp [hl, hg]) (fun j => if j = e.length + g.length then i else j) (fun j o' z => ?_) (fun j k o1 o2 z1 z2 he => ?_)
  · rcases key j o' z with ⟨h1, h2, h3⟩ | ⟨k, rfl, h3⟩ | ⟨rfl, rfl⟩
    · rw [if_neg (by omega), slot_app_l h1]
      exact ⟨h3, by rw [get_app_l (by omega), get_app_l (by omega)]⟩
    · have hk := slot_lt h3
      rw [if_neg (by omega), slot_app_r]
      refine ⟨h3, ?_⟩
      rw [hl, get_app_r, get_app_r, get_app_l (by omega)]
    · rw [if_pos rfl, slot_app_l hi]
      refine ⟨q, ?_⟩
      have z1 : (σ ++ (τ ++ [some v]))[σ.length + τ.length]? = some (some v) := by
        rw [get_app_r]
        simp
      have z2 : (σ ++ τ)[i]? = some (some v) := by
        rw [get_app_l (by omega)]
        exact hv
      rw [hl, hg, z1, z2]
  · rcases key j o1 z1 with ⟨h1, h2, h3⟩ | ⟨k1, rfl, h3⟩ | ⟨rfl, rfl⟩ <;> rcases key k o2 z2 with ⟨g1, g2, g3⟩ | ⟨k2, rfl, g3⟩ | ⟨rfl, rfl⟩
    · rw [if_neg (by omega), if_neg (by omega)] at he
      exact he
    · have := slot_lt g3
      rw [if_neg (by omega), if_neg (by omega)] at he
      exact he
    · rw [if_neg (by omega), if_pos rfl] at he
      exact absurd he h2
    · have := slot_lt h3
      rw [if_neg (by omega), if_neg (by omega)] at he
      exact he
    · have := slot_lt h3
      have := slot_lt g3
      rw [if_neg (by omega), if_neg (by omega)] at he
      exact he
    · have := slot_lt h3
      rw [if_neg (by omega), if_pos rfl] at he
      omega
    · rw [if_pos rfl, if_neg (by omega)] at he
      exact absurd he.symm g2
    · have := slot_lt g3
      rw [if_pos rfl, if_neg (by omega)] at he
      omega
    · rfl
/-- the first of the further slots goes to a name's place (what was there is forgotten) -/
theorem Rp.unhd {w : V} {o : Option O} (r : Rp c H0 Fr H (σ ++ some w :: τ) (e ++ o :: g) as) (hl : e.length = σ.length) {i : Nat} (hi : i < e.length) (hv : σ[i]? = some (some w)) :
    ∃ as', Rp c H0 Fr H (σ ++ τ) (e.set i o ++ g) as' := by
  have hg : g.length = τ.length := by
    have := r.len
    simp at this
    omega
  have key : ∀ j o', slot (e.set i o ++ g) j = some o' → (j < e.length ∧ j ≠ i ∧ slot e j = some o') ∨ (j = i ∧ o = some o') ∨ (∃ k, j = e.length + k ∧ slot g k = some o') := fun j o' z => by
    by_cases hj : j < e.length
    · rw [slot_app_l (by simpa using hj), slot_set hi] at z
      split at z
      · exact .inr (.inl ⟨by assumption, z⟩)
      · exact .inl ⟨hj, by assumption, z⟩
    · obtain ⟨k, rfl⟩ : ∃ k, j = e.length + k := ⟨j - e.length, by omega⟩
      have z : slot (e.set i o ++ g) ((e.set i o).length + k) = some o' := by simpa using z
      rw [slot_app_r] at z
      exact .inr (.inr ⟨k, rfl, z⟩)
  refine r.re (by simp [hl, hg]) (fun j => if j = i then e.length else if j < e.length then j else j + 1) (fun j o' z => ?_) (fun j k o1 o2 z1 z2 he => ?_)
  · rcases key j o' z with ⟨h1, h2, h3⟩ | ⟨rfl, rfl⟩ | ⟨k, rfl, h3⟩
    · rw [if_neg h2, if_pos h1, slot_app_l h1]
      exact ⟨h3, by rw [get_app_l (by omega), get_app_l (by omega)]⟩
    · rw [if_pos rfl]
      have z0 : slot (e ++ some o' :: g) (e.length + 0) = slot (some o' :: g) 0 := slot_app_r
      refine ⟨z0, ?_⟩
      rw [get_app_l (by omega), hv, hl]
      simp
    · have hk := slot_lt h3
      rw [if_neg (by omega), if_neg (by omega)]
      have z0 : slot (e ++ o :: g) (e.length + (k + 1)) = slot (o :: g) (k + 1) := slot_app_r
      refine ⟨z0.trans h3, ?_⟩
      rw [hl, get_app_r, Nat.add_assoc, get_app_r]
      rfl
  · rcases key j o1 z1 with ⟨h1, h2, h3⟩ | ⟨rfl, _⟩ | ⟨k1, rfl, h3⟩ <;> rcases key k o2 z2 with ⟨g1, g2, g3⟩ | ⟨rfl, _⟩ | ⟨k2, rfl, g3⟩
    · rw [if_neg h2, if_pos h1, if_neg g2, if_pos g1] at he
      exact he
    · rw [if_neg h2, if_pos h1, if_pos rfl] at he
      omega
    · rw [if_neg h2, if_pos h1, if_neg (by omega), if_neg (by omega)] at he
      omega
    · rw [if_neg g2, if_pos g1, if_pos rfl] at he
      omega
    · rfl
    · rw [if_pos rfl, if_neg (by omega), if_neg (by omega)] at he
      omega
    · rw [if_neg g2, if_pos g1, if_neg (by omega), if_neg (by omega)] at he
      omega
    · rw [if_pos rfl, if_neg (by omega), if_neg (by omega)] at he
      omega
    · rw [if_neg (by omega), if_neg (by omega), if_neg (by omega), if_neg (by omega)] at he
      omega
/-- .. or away -/
theorem Rp.unhd0 {w : Option V} {o : Option O} (r : Rp c H0 Fr H (σ ++ w :: τ) (e ++ o :: g) as) (hl : e.length = σ.length) : ∃ as', Rp c H0 Fr H (σ ++ τ) (e ++ g) as' := by
  have hg : g.length = τ.length := by
    have := r.len
    simp at this
    omega
  have key : ∀ j o', slot (e ++ g) j = some o' → (j < e.length ∧ slot e j = some o') ∨ (∃ k, j = e.length + k ∧ slot g k = some o') := fun j o' z => by
    by_cases hj : j < e.length
    · rw [slot_app_l hj] at z
      exact .inl ⟨hj, z⟩
    · obtain ⟨k, rfl⟩ : ∃ k, j = e.length + k := ⟨j - e.length, by omega⟩
      rw [slot_app_r] at z
      exact .inr ⟨k, rfl, z⟩
  refine r.re (by simp [hl, hg]) (fun j => if j < e.length then j else j + 1) (fun j o' z => ?_) (fun j k o1 o2 z1 z2 he => ?_)
  · rcases key j o' z with ⟨h1, h3⟩ | ⟨k, rfl, h3⟩
    · rw [if_pos h1, slot_app_l h1]
      exact ⟨h3, by rw [get_app_l (by omega), get_app_l (by omega)]⟩
    · rw [if_neg (by omega)]
      have z0 : slot (e ++ o :: g) (e.length + (k + 1)) = slot (o :: g) (k + 1) := slot_app_r
      refine ⟨z0.trans h3, ?_⟩
      rw [hl, get_app_r, Nat.add_assoc, get_app_r]
      rfl
  · split at he <;> split at he <;> omega
open Classical in
/-- the frame of a callee: the caller's, and what the caller's names own -/
noncomputable def frC (Fr H : Hp) (n : Nat) (as : Nat → List Addr) : Hp := fun b => if ∃ i, i < n ∧ b ∈ as i then H b else Fr b
theorem frC_in {Fr H : Hp} {n : Nat} {as : Nat → List Addr} {b : Addr} {i : Nat} (hi : i < n) (h : b ∈ as i) : frC Fr H n as b = H b := if_pos ⟨i, hi, h⟩
theorem frC_out {Fr H : Hp} {n : Nat} {as : Nat → List Addr} {b : Addr} (h : ∀ i, i < n → b ∉ as i) : frC Fr H n as b = Fr b := if_neg fun ⟨i, hi, q⟩ => h i hi q
/-- the callee's part -/
theorem Rp.callee (r : Rp c H0 Fr H (σ ++ τ) (e ++ g) as) (hl : e.length = σ.length) : Rp c H0 (frC Fr H e.length as) H τ g (fun i => as (e.length + i)) := by
  have hg : g.length = τ.length := by
    have := r.len
    simp at this
    omega
  refine ⟨hg, r.sub, fun b o h => ?_, fun i o q => ?_, fun i a ha => ?_, fun i j a ha hj => ?_, fun i => r.nd _, fun i q => r.emp _ (by rw [slot_app_r]; exact q), r.tab.re (Same.refl _) (fun _ _ => rfl) r.tab.n0 (fun p q => by rw [frC_out fun i _ => r.tab.na p q i]; exact r.tab.nF p q) fun p q i => r.tab.na p q _⟩
  · by_cases z : ∃ i, i < e.length ∧ b ∈ as i
    · obtain ⟨i, hi, hb⟩ := z
      rw [frC_in hi hb] at h
      exact ⟨h, (r.off i b hb).1⟩
    · rw [frC_out fun i hi q => z ⟨i, hi, q⟩] at h
      exact r.fr b o h
  · obtain ⟨v, h1, h2⟩ := r.own (e.length + i) o (by rw [slot_app_r]; exact q)
    rw [hl, get_app_r] at h1
    exact ⟨v, h1, h2⟩
  · refine ⟨(r.off _ a ha).1, ?_⟩
    rw [frC_out fun j hj q => by
      have := r.sep _ _ a ha q
      omega]
    exact (r.off _ a ha).2
  · have := r.sep _ _ a ha hj
    omega
/-- the two parts again, behind a call: G the callee's frame then, G2 what the caller wants of its own -/
theorem Rp.again (r : Rp c H0 Fr H (σ ++ τ) (e ++ g) as) (hl : e.length = σ.length) {H1 G G2 H' : Hp} {τ' : St} {g' : Env} {as' : Nat → List Addr} (s : Same H0 H1) (r' : Rp c H1 G H' τ' g' as')
    (hG : ∀ b o, frC Fr H e.length as b = some o → G b = some o) (hG2 : ∀ b o, G2 b = some o → G b = some o) (hG3 : ∀ i a, i < e.length → a ∈ as i → G2 a = none) : ∃ as2, Rp c H1 G2 H' (σ ++ τ') (e ++ g') as2 := by
  have keep : ∀ i a, i < e.length → a ∈ as i → H' a = H a ∧ H1 a = none := fun i a hi ha => by
    obtain ⟨x, hx⟩ := r.here ha
    have z := r'.fr a x (hG a x (by rw [frC_in hi ha]; exact hx))
    exact ⟨z.1.trans hx.symm, z.2⟩
  have apart : ∀ i j a, i < e.length → a ∈ as i → a ∉ as' j := fun i j a hi ha hj => by
    obtain ⟨x, hx⟩ := r.here ha
    have z := hG a x (by rw [frC_in hi ha]; exact hx)
    rw [(r'.off j a hj).2] at z
    cases z
  refine ⟨fun i => if i < e.length then as i else as' (i - e.length), by simp [hl, r'.len], r'.sub, fun b o h => r'.fr b o (hG2 b o h), fun i o q => ?_, fun i a ha => ?_, fun i j a ha hj => ?_, fun i => ?_, fun i q => ?_, r'.tab.re (Same.refl _) (fun _ _ => rfl) r'.tab.n0 (fun p q => ?_) fun p q i z => ?_⟩
  · by_cases hi : i < e.length
    · rw [slot_app_l hi] at q
      obtain ⟨v, h1, h2⟩ := r.own i o (by rw [slot_app_l hi]; exact q)
      rw [get_app_l (by omega)] at h1
      refine ⟨v, by rw [get_app_l (by omega)]; exact h1, ?_⟩
      show OwnR c H1 H' o v (if i < e.length then as i else as' (i - e.length))
      rw [if_pos hi]
      exact OwnR.mono s o v _ (fun a ha => (keep i a hi ha).1) h2
    · obtain ⟨k, rfl⟩ : ∃ k, i = e.length + k := ⟨i - e.length, by omega⟩
      rw [slot_app_r] at q
      obtain ⟨v, h1, h2⟩ := r'.own k o q
      refine ⟨v, by rw [hl, get_app_r]; exact h1, ?_⟩
      show OwnR c H1 H' o v (if e.length + k < e.length then as (e.length + k) else as' (e.length + k - e.length))
      rw [if_neg (by omega), Nat.add_sub_cancel_left]
      exact h2
  · by_cases hi : i < e.length
    · simp only [if_pos hi] at ha
      exact ⟨(keep i a hi ha).2, hG3 i a hi ha⟩
    · simp only [if_neg hi] at ha
      refine ⟨(r'.off _ a ha).1, ?_⟩
      cases z : G2 a with
      | none => rfl
      | some x =>
        have := hG2 a x z
        rw [(r'.off _ a ha).2] at this
        cases this
  · by_cases hi : i < e.length <;> by_cases hk : j < e.length
    · simp only [if_pos hi] at ha
      simp only [if_pos hk] at hj
      exact r.sep i j a ha hj
    · simp only [if_pos hi] at ha
      simp only [if_neg hk] at hj
      exact absurd hj (apart i _ a hi ha)
    · simp only [if_neg hi] at ha
      simp only [if_pos hk] at hj
      exact absurd ha (apart j _ a hk hj)
    · simp only [if_neg hi] at ha
      simp only [if_neg hk] at hj
      have := r'.sep _ _ a ha hj
      omega
  · by_cases hi : i < e.length
    · simp only [if_pos hi]
      exact r.nd i
    · simp only [if_neg hi]
      exact r'.nd _
  · by_cases hi : i < e.length
    · simp only [if_pos hi]
      rw [slot_app_l hi] at q
      exact r.emp i (by rw [slot_app_l hi]; exact q)
    · simp only [if_neg hi]
      obtain ⟨k, rfl⟩ : ∃ k, i = e.length + k := ⟨i - e.length, by omega⟩
      rw [slot_app_r] at q
      rw [Nat.add_sub_cancel_left]
      exact r'.emp k q
  · cases z : G2 p.1 with
    | none => rfl
    | some o =>
      have := hG2 _ _ z
      rw [r'.tab.nF p q] at this
      cases this
  · by_cases hi : i < e.length
    · simp only [if_pos hi] at z
      exact r.tab.na p q i z
    · simp only [if_neg hi] at z
      exact r'.tab.na p q _ z
theorem Rp.cutTail (r : Rp c H0 Fr H (σ ++ τ) (e ++ g) as) (hl : e.length = σ.length) : ∃ as', Rp c H0 Fr H σ e as' := by
  refine r.re hl id (fun j o z => ?_) (fun j k o1 o2 _ _ he => he)
  have hj := slot_lt z
  exact ⟨by rw [id, slot_app_l hj]; exact z, by rw [id, get_app_l (by omega)]⟩
theorem Rp.snocAll : ∀ {l : List D} {ws : List V} {σ : St} {e : Env} {as : Nat → List Addr}, Rp c H0 Fr H σ e as → Dats c H0 l ws → ∃ as', Rp c H0 Fr H (σ ++ ws.map some) (e ++ (l.map O.sh).map some) as'
  | [], ws, σ, e, as, r, h => by
    have h : ws = [] := h
    subst h
    exact ⟨as, by simpa using r⟩
  | d :: ds, _, σ, e, as, r, ⟨v, w, h1, h2, h3⟩ => by
    subst h1
    obtain ⟨as', r'⟩ := Rp.snocAll (r.snocSh h2) h3
    exact ⟨as', by simpa using r'⟩
theorem Kps.mono {H1 : Hp} (s : Same H0 H1) : ∀ {vs : List V} {rs : List R}, Kps c H0 σ vs rs → Kps c H1 σ vs rs
  | [], rs, h => h
  | v :: vs, rs, ⟨r, qs, h1, h2, h3⟩ => ⟨r, qs, h1, h2.mono s, Kps.mono s h3⟩
theorem args_ok : ∀ {rs : List R} {md : List Md} {vs : List V} {os : List O} {e e2 g : Env} {τ : St} {H0 : Hp} {as : Nat → List Addr}, Rp c H0 Fr H (σ ++ τ) (e ++ g) as → e.length = σ.length → Kps c H0 σ vs rs → asArgs md rs e = some (os, e2) →
    ∃ H1 as', Same H0 H1 ∧ Rp c H1 Fr H (σ ++ (τ ++ vs.map some)) (e2 ++ (g ++ os.map some)) as' ∧ e2.length = e.length ∧ os.length = vs.length
  | [], md, vs, os, e, e2, g, τ, H0, as, r, hl, ks, h => by
    cases vs with
    | nil =>
      cases h
      exact ⟨H0, as, Same.refl _, by simpa using r, rfl, rfl⟩
    | cons v vs =>
      obtain ⟨_, _, z, _⟩ := ks
      cases z
  | ra :: rs, md, vs, os, e, e2, g, τ, H0, as, r, hl, ks, h => by
    cases vs with
    | nil => cases ks
    | cons v vs =>
      obtain ⟨r1, qs, z, k1, ks⟩ := ks
      cases z
      have h : (match asArg (md.headD .lk) ra e with
        | some (o, e1) => (match asArgs md.tail rs e1 with
          | some (os, e2) => some (o :: os, e2)
          | none => none)
        | none => none) = some (os, e2) := h
      cases q : asArg (md.headD .lk) ra e with
      | none =>
        rw [q] at h
        cases h
      | some p =>
        obtain ⟨o, e1⟩ := p
        rw [q] at h
        have h : (match asArgs md.tail rs e1 with
          | some (os, e2) => some (o :: os, e2)
          | none => none) = some (os, e2) := h
        cases q2 : asArgs md.tail rs e1 with
        | none =>
          rw [q2] at h
          cases h
        | some p2 =>
          obtain ⟨os1, e3⟩ := p2
          rw [q2] at h
          cases h
          have step : ∃ H1 as', Same H0 H1 ∧ Rp c H1 Fr H (σ ++ (τ ++ [some v])) (e1 ++ (g ++ [some o])) as' ∧ e1.length = e.length := by
            have lk : ∀ {d : D} {e1' : Env}, leak ra e = .ok d e1' → ∃ H1 as', Same H0 H1 ∧ Rp c H1 Fr H (σ ++ (τ ++ [some v])) (e1' ++ (g ++ [some (.sh d)])) as' ∧ e1'.length = e.length := fun {d e1'} hz => by
              cases ra with
              | d x =>
                cases hz
                exact ⟨H0, as, Same.refl _, by simpa using r.snocSh k1, rfl⟩
              | sl i =>
                have hz : (match slot e i with
                  | some o => Rs.ok o.frz (e.set i (some (.sh o.frz)))
                  | none => .bad) = .ok d e1' := hz
                cases qs : slot e i with
                | none =>
                  rw [qs] at hz
                  cases hz
                | some o' =>
                  rw [qs] at hz
                  cases hz
                  have hi := slot_lt qs
                  obtain ⟨H1, w, s1, r1, hw, hd⟩ := r.freeze (i := i) (by rw [slot_app_l hi]; exact qs)
                  have k1 : σ[i]? = some (some v) := k1
                  rw [get_app_l (by omega), k1] at hw
                  cases hw
                  rw [List.set_append_left _ _ hi] at r1
                  exact ⟨H1, _, s1, by simpa using r1.snocSh hd, by simp⟩
              | ow o' => exact k1.elim
            unfold asArg at q
            split at q
            · rename_i i
              split at q
              · cases q
                rename_i qs
                obtain ⟨as', r'⟩ := r.move hl qs k1
                exact ⟨H0, as', Same.refl _, r', by simp⟩
              · cases q
            · split at q
              · cases q
                rename_i hz
                exact lk hz
              · cases q
          obtain ⟨H1, as1, s1, r1, hl1⟩ := step
          have ks' : Kps c H1 σ vs rs := ks.mono s1
          obtain ⟨H2, as2, s2, r2, hl2, hn⟩ := args_ok (τ := τ ++ [some v]) (g := g ++ [some o]) r1 (by omega) ks' q2
          exact ⟨H2, as2, s1.trans s2, by simpa using r2, by omega, by simp [hn]⟩
theorem back_len : ∀ (md : List Md) (rs : List R) (os : List O) (e : Env), (back md rs os e).length = e.length
  | md, [], os, e => by unfold back; rfl
  | md, r :: rs, [], e => by unfold back; rfl
  | md, r :: rs, o :: os, e => by
    unfold back
    split
    · rw [back_len]; simp
    · rw [back_len]
theorem back_ok : ∀ {rs : List R} {md : List Md} {vs : List V} {os : List O} {e : Env} {τ : St} {K0 : Hp} {as : Nat → List Addr}, Rp c H0 Fr H (σ ++ (vs.map some ++ τ)) (e ++ os.map some) as → e.length = σ.length → Kps c K0 σ vs rs → rs.length ≤ os.length →
    ∃ as' g, Rp c H0 Fr H (σ ++ τ) (back md rs os e ++ g) as'
  | [], md, vs, os, e, τ, K0, as, r, hl, ks, hn => by
    cases vs with
    | nil => exact ⟨as, os.map some, by simpa [back] using r⟩
    | cons v vs =>
      obtain ⟨_, _, z, _⟩ := ks
      cases z
  | ra :: rs, md, vs, os, e, τ, K0, as, r, hl, ks, hn => by
    cases vs with
    | nil => cases ks
    | cons v vs =>
      obtain ⟨r1, qs, z, k1, ks⟩ := ks
      cases z
      cases os with
      | nil => simp at hn
      | cons o os =>
        have r' : Rp c H0 Fr H (σ ++ some v :: (vs.map some ++ τ)) (e ++ some o :: os.map some) as := by simpa using r
        have hn' : rs.length ≤ os.length := by simpa using hn
        unfold back
        split
        · rename_i i q1
          have k1 : σ[i]? = some (some v) := k1
          have hi : i < e.length := by
            have := (List.getElem?_eq_some_iff.mp k1).1
            omega
          obtain ⟨as1, r1⟩ := r'.unhd hl hi k1
          exact back_ok (e := e.set i (some o)) r1 (by simp [hl]) ks hn'
        · obtain ⟨as1, r1⟩ := r'.unhd0 hl
          exact back_ok r1 hl ks hn'
end
/-! ### a def's promise -/
def spF (t : Tb) (c : Cn) (F : Fn) (n : Nat) : Sp := fun vs H Q E => vs.length = n ∧ ∃ (os : List O) (H0 Fr : Hp) (as : Nat → List Addr), Rp c H0 Fr H (vs.map some) (os.map some) as ∧
  match F os with
  | .rt o os' => ∀ v H1 H', Same H0 H1 → Rp1 c H1 Fr H' (vs.map some) ((mergeO os os').map some) v o → Q v H'
  | .ex k p os' => ∀ H1 H' as' cls dx, Same H0 H1 → Rp c H1 Fr H' (vs.map some) ((mergeO os os').map some) as' → ExA t c H1 H' k p cls dx → E cls dx H'
  | .bad => False
theorem Kps.len {c : Cn} {H0 : Hp} {σ : St} : ∀ {vs : List V} {rs : List R}, Kps c H0 σ vs rs → rs.length = vs.length
  | [], rs, h => by
    have h : rs = [] := h
    rw [h]
    rfl
  | v :: vs, rs, ⟨r, qs, h1, _, h3⟩ => by
    subst h1
    simp [Kps.len h3]
/-- the callee runs -/
theorem call_po {t : Tb} {c : Cn} {W : WX} {F : Fn} {md : List Md} {dfl : List D} {n : Nat} {ms : List (M R)} {σ : St} {H : Hp} {Q : VK} {dvs : List V} (hd : ∀ H, Dats c H dfl dvs) (hn : ms.length + dfl.length = n)
    {e : Env} {H0 Fr : Hp} {as : Nat → List Addr} (rp : Rp c H0 Fr H σ e as) (po : Po t c W Fr σ H0 (rrR c Fr σ) Q (mCall F md dfl ms e)) : Po t c W Fr σ H0 (rrRs c Fr σ) (fun vs H1 => spF t c F n (vs ++ dvs) H1 Q (fun cls d H => W cls d σ H)) (mRs ms e) := by
  have hlen : ∀ (ms : List (M R)) (e : Env) (rs : List R) (e1 : Env), mRs ms e = .ok rs e1 → rs.length = ms.length := fun ms => by
    induction ms with
    | nil =>
      intro e rs e1 h
      cases h
      rfl
    | cons m ms ih =>
      intro e rs e1 h
      have h : andThen (m e) (fun r e1 => andThen (mRs ms e1) fun rs e2 => .ok (nrm r :: rs) e2) = .ok rs e1 := h
      cases q1 : m e with
      | ok r e2 =>
        rw [q1] at h
        have h : andThen (mRs ms e2) (fun rs e2 => .ok (nrm r :: rs) e2) = .ok rs e1 := h
        cases q2 : mRs ms e2 with
        | ok rs2 e3 =>
          rw [q2] at h
          cases h
          simp [ih _ _ _ q2]
        | ex _ _ _ =>
          rw [q2] at h
          cases h
        | bad =>
          rw [q2] at h
          cases h
      | ex _ _ _ =>
        rw [q1] at h
        cases h
      | bad =>
        rw [q1] at h
        cases h
  have po : Po t c W Fr σ H0 (rrR c Fr σ) Q (andThen (mRs ms e) fun rs e1 => match asArgs md rs e1 with
    | some (os, e2) => (match F (os ++ dfl.map O.sh) with
      | .rt o os' => .ok (ofRes o) (back md rs (mergeO (os ++ dfl.map O.sh) os') e2)
      | .ex c p os' => .ex c p (back md rs (mergeO (os ++ dfl.map O.sh) os') e2)
      | .bad => .bad)
    | none => .bad) := po
  cases qm : mRs ms e with
  | ex k p e1 =>
    rw [qm] at po
    exact po
  | bad =>
    rw [qm] at po
    exact po
  | ok rs e1 =>
    have hrs := hlen _ _ _ _ qm
    rw [qm] at po
    intro vs H1 H' s ⟨⟨as1, rp1⟩, ks⟩
    have po := Po.mono s po
    have po : Po t c W Fr σ H1 (rrR c Fr σ) Q (match asArgs md rs e1 with
      | some (os, e2) => (match F (os ++ dfl.map O.sh) with
        | .rt o os' => .ok (ofRes o) (back md rs (mergeO (os ++ dfl.map O.sh) os') e2)
        | .ex c p os' => .ex c p (back md rs (mergeO (os ++ dfl.map O.sh) os') e2)
        | .bad => .bad)
      | none => .bad) := po
    cases qa : asArgs md rs e1 with
    | none =>
      rw [qa] at po
      exact po.elim
    | some pr =>
      obtain ⟨os, e2⟩ := pr
      rw [qa] at po
      obtain ⟨H2, as2, s2, rp2, hl2, hlo⟩ := args_ok (g := []) (τ := []) (by simpa using rp1) rp1.len ks qa
      have hl : e2.length = σ.length := by rw [hl2]; exact rp1.len
      have hd2 : Dats c H2 dfl dvs := hd H2
      obtain ⟨as3, rp3⟩ := rp2.snocAll hd2
      have rp3 : Rp c H2 Fr H' (σ ++ (vs ++ dvs).map some) (e2 ++ (os ++ dfl.map O.sh).map some) as3 := by simpa using rp3
      have po := Po.mono s2 po
      have hvs : (vs ++ dvs).length = n := by
        rw [List.length_append, ← Kps.len ks, hrs, hd2.len]
        exact hn
      refine ⟨hvs, os ++ dfl.map O.sh, H2, frC Fr H' e2.length as3, _, rp3.callee hl, ?_⟩
      have po : Po t c W Fr σ H2 (rrR c Fr σ) Q (match F (os ++ dfl.map O.sh) with
        | .rt o os' => .ok (ofRes o) (back md rs (mergeO (os ++ dfl.map O.sh) os') e2)
        | .ex c p os' => .ex c p (back md rs (mergeO (os ++ dfl.map O.sh) os') e2)
        | .bad => .bad) := po
      have fin : ∀ {H3 H'' : Hp} {bs : List Addr} {os2 : List O} {as4 : Nat → List Addr}, Same H2 H3 → (∀ a ∈ bs, H3 a = none ∧ frC Fr H' e2.length as3 a = none) → Rp c H3 (addF (frC Fr H' e2.length as3) H'' bs) H'' ((vs ++ dvs).map some) (os2.map some) as4 →
          ∃ as5, Rp c H3 (addF Fr H'' bs) H'' σ (back md rs os2 e2) as5 := fun {H3 H'' bs os2 as4} s3 off r4 => by
        have frz : ∀ b o, Fr b = some o → frC Fr H' e2.length as3 b = some o := fun b o h => by
          rw [frC_out fun i hi hb => by
            rw [(rp3.off i b hb).2] at h
            cases h]
          exact h
        have nin : ∀ {i a}, i < e2.length → a ∈ as3 i → a ∉ bs := fun {i a} hi ha hb => by
          have z := (off a hb).2
          rw [frC_in hi ha] at z
          obtain ⟨x, hx⟩ := rp3.here ha
          rw [hx] at z
          cases z
        obtain ⟨as5, r5⟩ := rp3.again hl s3 r4 (G2 := addF Fr H'' bs) (fun b o h => by
            have hb : b ∉ bs := fun q => by
              rw [(off b q).2] at h
              cases h
            rw [addF_out hb]
            exact h) (fun b o h => by
            by_cases hb : b ∈ bs
            · rw [addF_in hb] at h ⊢
              exact h
            · rw [addF_out hb] at h ⊢
              exact frz b o h) (fun i a hi ha => by
            rw [addF_out (nin hi ha)]
            exact (rp3.off i a ha).2)
        have hlen2 : rs.length ≤ os2.length := by
          have z := r4.len
          simp at z
          have z2 := Kps.len ks
          omega
        obtain ⟨as6, g, r6⟩ := back_ok (md := md) (vs := vs) (τ := dvs.map some) (by simpa using r5) hl ks hlen2
        exact r6.cutTail (by rw [back_len]; exact hl)
      cases qF : F (os ++ dfl.map O.sh) with
      | rt o os' =>
        rw [qF] at po
        intro v H3 H'' s3 ⟨bs, as4, ow, nd, off, r4⟩
        obtain ⟨as5, r5⟩ := fin s3 off r4
        have r1 : Rp1 c H3 Fr H'' σ (back md rs (mergeO (os ++ dfl.map O.sh) os') e2) v o := ⟨bs, as5, ow, nd, fun a ha => ⟨(off a ha).1, by
          cases z : Fr a with
          | none => rfl
          | some x =>
            have := (off a ha).2
            rw [frC_out fun i hi hb => by
              rw [(rp3.off i a hb).2] at z
              cases z] at this
            rw [this] at z
            cases z⟩, r5⟩
        refine po v H3 H'' s3 ?_
        cases o with
        | sh d => exact ⟨r1.rp, ow.2⟩
        | fl l => exact r1
        | fd l => exact r1
        | fo k l => exact r1
      | ex k p os' =>
        rw [qF] at po
        intro H3 H'' as4 cls dx s3 r4 xa
        obtain ⟨as5, r5⟩ := fin (bs := []) s3 (fun a ha => by cases ha) (by rw [addF_nil]; exact r4)
        rw [addF_nil] at r5
        exact po H3 H'' as5 cls dx s3 r5 xa
      | bad =>
        rw [qF] at po
        exact po.elim
theorem call_ok {t : Tb} {c : Cn} {W : WX} {F : Fn} {md : List Md} {dfl : List D} {n : Nat} {ms : List (M R)} {σ : St} {H : Hp} {Q : VK} {dvs : List V} (hd : ∀ H, Dats c H dfl dvs) (hn : ms.length + dfl.length = n)
    (q : tG t c W (rrR c) (mCall F md dfl ms) σ H Q) : tG t c W (rrRs c) (mRs ms) σ H fun vs H1 => spF t c F n (vs ++ dvs) H1 Q (fun cls d H => W cls d σ H) :=
  let ⟨e, H0, Fr, as, rp, po⟩ := q
  ⟨e, H0, Fr, as, rp, call_po hd hn rp po⟩
/-! ### calls where no repr is under way -/
/-- what a def promises where nothing is being shown -/
structure FnQ (P : Program) (w : World) (K : PySem.W.Frag) (mg : Str → Option Value) (base : Heap) (CX : CXT) (k : Nat) (f : Addr) (fd : FuncData) (ps : List Str) (sp : Sp) : Prop where
  len : ∀ (vs : List V) (H : Hp) (Q : VK) (E : XK), sp vs H Q E → vs.length = ps.length
  run : ∀ (B : Around) (out : List PySem.Env) (st : Shared) (H : Hp) (ar : Args) (us : List Value) (vs : List V) (Q : VK) (E : XK), Room k B → B.guards = some [] → Env0 P w K mg base B out st H → BindsTo st fd ar (ps.zip us) → Vals vs us → sp vs H Q E →
    codeAny (model P w) B (.call (.ref f) ar) (CR CX out P w H st Q E) st
theorem FnQ.of {P : Program} {w : World} {K : PySem.W.Frag} {mg : Str → Option Value} {base : Heap} {CX : CXT} {k : Nat} {f : Addr} {fd : FuncData} {ps : List Str} {sp : Sp} (G : FnOk P w K mg base CX k f fd ps sp) : FnQ P w K mg base CX k f fd ps sp :=
  ⟨G.len, fun B out st H ar us vs Q E hr _ => G.run B out st H ar us vs Q E hr⟩
section
variable {X : Cx} {CX : CXT} {k : Nat} {f : Addr} {fd : FuncData} {ps : List Str} {sp : Sp} {ds : List Value} {dvs : List V} {E : St → XK}
theorem run_q {pn : List (Addr × Obj)} {σ : St} {H : Hp} {st : Shared} {Q : VK} {us : List Value} {vs : List V} (G : FnQ X.prog X.w X.K X.mg X.base CX k f fd ps sp) (hr : Room k X.A) (hu : X.A.guards = some []) (hb : Binds X.K fd ps ds) (hd : Vals dvs ds) (hx : PassesAt CX X σ (E σ)) (I : Inv X pn σ H st) (rel : Vals vs us)
    (asked : sp (vs ++ dvs) H Q (E σ)) : wpAny (model X.prog X.w) X.A (call (.ref f) us) (EP X pn σ Q) X.xe st := by
  have rel2 : Vals (vs ++ dvs) (us ++ ds) := rel.append hd
  have e1 := G.len _ _ _ _ asked
  rw [rel2.length] at e1
  have go := G.run X.A X.stack st H ⟨us, []⟩ (us ++ ds) (vs ++ dvs) Q (E σ) hr hu I.env0 (hb st us I.kIn e1) rel2 asked
  refine wpAny_call (codeAny_mono go fun ans st2 got => ?_)
  match ans, got with
  | .error er, got => exact hx pn H st er st2 I got
  | .ok (.ret u), got => exact I.after got
  | .ok .next, got => exact got.elim
  | .ok .brk, got => exact got.elim
  | .ok .cont, got => exact got.elim
theorem pe_callQ {x : Str} {a : Expr} {es : List Expr} {ta : TA} {p pos : Pos} (G : FnQ X.prog X.w X.K X.mg X.base CX k f fd ps sp) (hr : Room k X.A) (hu : X.A.guards = some []) (hg : Gl X x) (hm : X.mg x = some (.ref f)) (hk : PySem.W.keepIn X.K (.ref f) = true) (hb : Binds X.K fd ps ds) (hd : Vals dvs ds) (hx : ∀ σ, PassesAt CX X σ (E σ))
    (ha : PA X (a :: es) ta) (hdb : (x == ("__debug__" : Str)) = false) (he : starEach (a :: es) X.env = (false, eval a X.env) :: starEach es X.env) (hpl : (backTo pos (starEach es X.env)).any (·.1) = false) : PE X (.Call (.Name x p) (a :: es) [] pos) (tCallSD sp dvs E ta) :=
  ⟨fun pn st σ H Q I asked => wpAny_Call_Name_kw (ld_glob I hg hm (PySem.W.callWith_K (h₀ := X.base) I.ok.mod.kin hk (thn (ha.run pos pn st σ H _ I asked) fun us s1 ⟨vs, H1, I1, rel, q⟩ => ⟨I1.kIn, run_q G hr hu hb hd (hx σ) I1 rel q⟩) he hpl) hdb)⟩
end
section
variable {X : Cx} {t : Tb} {W : WX} {k n : Nat} {f : Addr} {fd : FuncData} {ps : List Str} {Z : Fn} {x : Str} {p pos : Pos} {a : Expr} {es : List Expr} {ms : List (M R)} {ds : List Value} {dvs : List V} {dfl : List D}
abbrev FO (P : Program) (w : World) (K : PySem.W.Frag) (mg : Str → Option Value) (base : Heap) (t : Tb) (k : Nat) (f : Addr) (fd : FuncData) (ps : List Str) (Z : Fn) (n : Nat) : Prop := FnQ P w K mg base (L2.CX P w) k f fd ps (spF t ⟨K, t.cls, t.fld, t.tabs, t.ex, t.exM, t.exR⟩ Z n)
theorem se_call (G : FO X.prog X.w X.K X.mg X.base t k f fd ps Z n) (hr : Room k X.A) (hu : X.A.guards = some []) (hg : Gl X x) (hm : X.mg x = some (.ref f)) (hk : PySem.W.keepIn X.K (.ref f) = true) (hb : Binds X.K fd ps ds) (hd : Vals dvs ds) (hdd : ∀ H, Dats (cn X t) H dfl dvs) (tk : Takes X W) (md : List Md)
    (ha : SA X t W (a :: es) (mRs ms)) (hn : ms.length + dfl.length = n := by rfl) (hdb : (x == ("__debug__" : Str)) = false := by decide) (he : starEach (a :: es) X.env = (false, eval a X.env) :: starEach es X.env := by rfl) (hpl : (backTo pos (starEach es X.env)).any (·.1) = false := by rfl) :
    SE X t W (.Call (.Name x p) (a :: es) [] pos) (mCall Z md dfl ms) :=
  PE.imp (pe_callQ G hr hu hg hm hk hb hd (passAt tk) ha hdb he hpl) fun _ _ _ q => call_ok hdd hn q
end
end F
end

section
set_option Elab.async false
set_option linter.all false
set_option autoImplicit false
set_option maxRecDepth 100000
/-! F layer, part E: statements. -/
namespace F
open PySem PySem.Spec PyProof.Rows L2
/-- slots that the code never stores -/
def Prot (P : Nat → Bool) (σ σ' : St) : Prop := σ'.length = σ.length ∧ ∀ i, P i = true → σ'[i]? = σ[i]?
theorem Prot.refl {P : Nat → Bool} {σ : St} : Prot P σ σ := ⟨rfl, fun _ _ => rfl⟩
theorem Prot.trans {P : Nat → Bool} {σ σ' σ2 : St} (a : Prot P σ σ') (b : Prot P σ' σ2) : Prot P σ σ2 := ⟨b.1.trans a.1, fun i hi => (b.2 i hi).trans (a.2 i hi)⟩
theorem Prot.set {P : Nat → Bool} {σ : St} {i : Nat} {x : Option V} (h : P i = false) : Prot P σ (σ.set i x) := ⟨by simp, fun j hj => List.getElem?_set_ne fun z => by
  rw [z, hj] at h
  cases h⟩
def PoS (t : Tb) (c : Cn) (W : WX) (P : Nat → Bool) (Fr : Hp) (σ : St) (H0 : Hp) (D : Ends) : SR → Prop
  | .nx e => ∀ σ' H1 H' as, Same H0 H1 → Prot P σ σ' → Rp c H1 Fr H' σ' e as → D.nx σ' H'
  | .bk e => ∀ σ' H1 H' as, Same H0 H1 → Prot P σ σ' → Rp c H1 Fr H' σ' e as → D.bk σ' H'
  | .ct e => ∀ σ' H1 H' as, Same H0 H1 → Prot P σ σ' → Rp c H1 Fr H' σ' e as → D.ct σ' H'
  | .rt o e => ∀ v σ' H1 H', Same H0 H1 → Prot P σ σ' → Rp1 c H1 Fr H' σ' e v o → D.rt v H'
  | .ex k p e => ∀ σ' H1 H' as cls dx, Same H0 H1 → Prot P σ σ' → Rp c H1 Fr H' σ' e as → ExA t c H1 H' k p cls dx → W cls dx σ' H'
  | .bad => False
def tS (t : Tb) (c : Cn) (W : WX) (P : Nat → Bool) (m : MS) : TS := fun D σ H => ∃ (e : Env) (H0 Fr : Hp) (as : Nat → List Addr), Rp c H0 Fr H σ e as ∧ PoS t c W P Fr σ H0 D (m e)
abbrev SS (X : Cx) (t : Tb) (W : WX) (P : Nat → Bool) (st : Stmt) (m : MS) : Prop := PS X st (tS t (cn X t) W P m)
abbrev SSs (X : Cx) (t : Tb) (W : WX) (P : Nat → Bool) (st : List Stmt) (m : MS) : Prop := PSs X st (tS t (cn X t) W P m)
theorem PS.imp {X : Cx} {s : Stmt} {u u' : TS} (h : PS X s u) (k : ∀ D σ H, u' D σ H → u D σ H) : PS X s u' := ⟨fun pins s σ H D I q => h.run pins s σ H D I (k _ _ _ q)⟩
theorem PSs.imp {X : Cx} {s : List Stmt} {u u' : TS} (h : PSs X s u) (k : ∀ D σ H, u' D σ H → u D σ H) : PSs X s u' := ⟨fun pins s σ H D I q => h.run pins s σ H D I (k _ _ _ q)⟩
section
variable {t : Tb} {c : Cn} {W : WX} {P : Nat → Bool} {Fr H0 H1 : Hp} {σ σ' : St} {D : Ends}
theorem PoS.mono {x : SR} (s : Same H0 H1) (p : Prot P σ σ') (h : PoS t c W P Fr σ H0 D x) : PoS t c W P Fr σ' H1 D x := by
  cases x with
  | nx e => exact fun σ2 H2 H' as s2 p2 r => h σ2 H2 H' as (s.trans s2) (p.trans p2) r
  | bk e => exact fun σ2 H2 H' as s2 p2 r => h σ2 H2 H' as (s.trans s2) (p.trans p2) r
  | ct e => exact fun σ2 H2 H' as s2 p2 r => h σ2 H2 H' as (s.trans s2) (p.trans p2) r
  | rt o e => exact fun v σ2 H2 H' s2 p2 r => h v σ2 H2 H' (s.trans s2) (p.trans p2) r
  | ex k q e => exact fun σ2 H2 H' as cls dx s2 p2 r xa => h σ2 H2 H' as cls dx (s.trans s2) (p.trans p2) r xa
  | bad => exact h
/-- an expression ahead -/
theorem PoS.of {α β : Type} {RR : Hp → Hp → Env → β → α → Prop} {x : Rs α} {f : α → Env → SR} {k : β → Hp → Prop} (h : PoS t c W P Fr σ H0 D (sOf x f))
    (hk : ∀ (a : α) (e : Env) (b : β) (H1 H' : Hp), Same H0 H1 → RR H1 H' e b a → PoS t c W P Fr σ H1 D (f a e) → k b H') : Po t c W Fr σ H0 RR k x := by
  cases x with
  | ok a e1 => exact fun b H1 H' s rr => hk a e1 b H1 H' s rr (PoS.mono s Prot.refl h)
  | ex k' p e1 => exact fun H1 H' as cls dx s rp xa => h σ H1 H' as cls dx s Prot.refl rp xa
  | bad => exact h
theorem PoS.ofOS {γ : Type} {x : Option γ} {f : γ → SR} (h : PoS t c W P Fr σ H0 D (ofOS x f)) : ∃ a, x = some a ∧ PoS t c W P Fr σ H0 D (f a) := by
  cases x with
  | none => exact h.elim
  | some a => exact ⟨a, rfl, h⟩
theorem PoS.leak {H : Hp} {ra : R} {e1 : Env} {v : V} {f : F.D → Env → SR} (po : PoS t c W P Fr σ H0 D (sOf (leak ra e1) f)) (rr : RpR c H0 Fr H σ e1 v ra) :
    ∃ d e2 H2 as, leak ra e1 = .ok d e2 ∧ Same H0 H2 ∧ Rp c H2 Fr H σ e2 as ∧ Dat c H2 d v ∧ PoS t c W P Fr σ H2 D (f d e2) := by
  rcases leak_ok (e' := e1) rr with ⟨d, e2, q⟩ | q
  · rw [q] at po
    obtain ⟨H2, as, s, rp, hd⟩ := RpR.leak rr q
    exact ⟨d, e2, H2, as, q, s, rp, hd, PoS.mono s Prot.refl po⟩
  · rw [q] at po
    exact po.elim
theorem Rp.takeOut {H : Hp} {e : Env} {as : Nat → List Addr} (r : Rp c H0 Fr H σ e as) {i : Nat} {o : O} {v : V} (q : slot e i = some o) (hv : σ[i]? = some (some v)) : Rp1 c H0 Fr H σ (e.set i none) v o := by
  obtain ⟨w, h1, h2⟩ := r.own i o q
  rw [hv] at h1
  cases h1
  refine ⟨as i, setA as i [], h2, r.nd i, r.off i, ?_⟩
  have d := r.drop i
  refine ⟨d.len, d.sub, fun b x hb => ?_, d.own, fun j a ha => ?_, d.sep, d.nd, d.emp, d.tab.re (Same.refl _) (fun _ _ => rfl) d.tab.n0 (fun p q' => by rw [addF_out (r.tab.na p q' i)]; exact d.tab.nF p q') d.tab.na⟩
  · by_cases z : b ∈ as i
    · rw [addF_in z] at hb
      exact ⟨hb, (r.off i b z).1⟩
    · rw [addF_out z] at hb
      exact r.fr b x hb
  · obtain ⟨hj, ha⟩ := setA_mem ha
    refine ⟨(r.off j a ha).1, ?_⟩
    rw [addF_out fun z => hj (r.sep j i a ha z)]
    exact (r.off j a ha).2
end
section
variable {X : Cx} {t : Tb} {W : WX} {P : Nat → Bool} {st : Stmt} {rest : List Stmt} {m m1 m2 : MS} {a b : Expr} {ma mb : M R} {pos : Pos}
theorem ss_bad : SS X t W P st sBad := PS.imp ps_never fun _ _ _ ⟨_, _, _, _, _, q⟩ => q
theorem sss_nil : SSs X t W P [] sPass := PSs.imp pss_nil fun D σ H ⟨e, H0, Fr, as, rp, po⟩ => po σ H0 H as (Same.refl _) Prot.refl rp
theorem sss_one (h : SS X t W P st m) : SSs X t W P [st] m := pss_one h
theorem sss_cons (h : SS X t W P st m1) (h2 : SSs X t W P rest m2) : SSs X t W P (st :: rest) (sSeq m1 m2) := by
  refine PSs.imp (pss_cons h h2) fun D σ H ⟨e, H0, Fr, as, rp, po⟩ => ?_
  refine ⟨e, H0, Fr, as, rp, ?_⟩
  have po : PoS t (cn X t) W P Fr σ H0 D (match m1 e with
    | .nx e1 => m2 e1
    | r => r) := po
  cases q : m1 e with
  | nx e1 =>
    rw [q] at po
    exact fun σ' H1 H' as s p r => ⟨e1, H1, Fr, as, r, PoS.mono s p po⟩
  | bk e1 =>
    rw [q] at po
    exact po
  | ct e1 =>
    rw [q] at po
    exact po
  | rt o e1 =>
    rw [q] at po
    exact po
  | ex k p e1 =>
    rw [q] at po
    exact po
  | bad =>
    rw [q] at po
    exact po
theorem ss_exp (h : SE X t W a ma) (hs : swapsWith a none pos.line X.env = pure false := by rfl) : SS X t W P (.Expr a pos) (sExp ma) := by
  refine PS.imp (ps_expr h hs) fun D σ H ⟨e, H0, Fr, as, rp, po⟩ => ?_
  refine ⟨e, H0, Fr, as, rp, PoS.of po fun r e1 v H1 H' s rr po => ?_⟩
  obtain ⟨as2, rp2⟩ := RpR.rp rr
  exact po σ H1 H' as2 (Same.refl _) Prot.refl rp2
theorem ret_read {D : Ends} {σ : St} {H : Hp} (q : tS t (cn X t) W P (sRet ma) D σ H) : tI X t W ma σ H fun v H' => D.rt v H' := by
  obtain ⟨e, H0, Fr, as, rp, po⟩ := q
  refine ⟨e, H0, Fr, as, rp, PoS.of po fun r e1 v H1 H' s rr po => ?_⟩
  cases r with
  | d x =>
    obtain ⟨⟨as2, rp2⟩, hd⟩ := rr
    exact po v σ H1 H' (Same.refl _) Prot.refl (rp2.sh1 hd)
  | ow o => exact po v σ H1 H' (Same.refl _) Prot.refl rr
  | sl i =>
    obtain ⟨⟨as2, rp2⟩, hv⟩ := rr
    have po : PoS t (cn X t) W P Fr σ H1 D (match slot e1 i with
      | some (.sh d) => .rt (.sh d) e1
      | some o => .rt o (e1.set i none)
      | none => .bad) := po
    cases q : slot e1 i with
    | none =>
      rw [q] at po
      exact po.elim
    | some o =>
      rw [q] at po
      cases o with
      | sh d =>
        obtain ⟨w, h1, h2⟩ := rp2.own i _ q
        rw [hv] at h1
        cases h1
        exact po v σ H1 H' (Same.refl _) Prot.refl (rp2.sh1 h2.2)
      | fl l => exact po v σ H1 H' (Same.refl _) Prot.refl (rp2.takeOut q hv)
      | fd l => exact po v σ H1 H' (Same.refl _) Prot.refl (rp2.takeOut q hv)
      | fo k l => exact po v σ H1 H' (Same.refl _) Prot.refl (rp2.takeOut q hv)
theorem ss_ret (h : SE X t W a ma) : SS X t W P (.Return (some a) pos) (sRet ma) := PS.imp (ps_ret h) fun D σ H q => ret_read q
theorem ss_if {c : Expr} {s1 s2 : List Stmt} {mc : M Bool} (h : SB X t W c mc) (h1 : SSs X t W P s1 m1) (h2 : SSs X t W P s2 m2) : SS X t W P (.If c s1 s2 pos) (sIf mc m1 m2) := by
  refine PS.imp (ps_if h h1 h2) fun D σ H ⟨e, H0, Fr, as, rp, po⟩ => ?_
  refine ⟨e, H0, Fr, as, rp, PoS.of po fun x e1 k H1 H' s ⟨ek, as2, rp2⟩ po => ?_⟩
  subst ek
  cases k with
  | true => exact ⟨e1, H1, Fr, as2, rp2, po⟩
  | false => exact ⟨e1, H1, Fr, as2, rp2, po⟩
/-- the store behind an answer -/
theorem set_ok {c : Cn} {i : Nat} (hi : P i = false) {σ : St} {H : Hp} {D : Ends} {Fr H1 : Hp} {e1 : Env} {v : V} {r : R} (rr : RpR c H1 Fr H σ e1 v r)
    (po : PoS t c W P Fr σ H1 D (setR i r e1)) : D.nx (σ.set i (some v)) H := by
  cases r with
  | ow o =>
    obtain ⟨as2, rp2⟩ := Rp1.set (i := i) rr
    exact po _ H1 H as2 (Same.refl _) (Prot.set hi) rp2
  | d x =>
    obtain ⟨⟨as2, rp2⟩, hd⟩ := rr
    exact po _ H1 H _ (Same.refl _) (Prot.set hi) (rp2.setSh hd)
  | sl j =>
    obtain ⟨d, e2, H2, as2, q, s2, rp2, hd, po⟩ := PoS.leak (ra := .sl j) po rr
    exact po _ H2 H _ (Same.refl _) (Prot.set hi) (rp2.setSh hd)
theorem ss_set {i : Nat} {x : Str} {pos' : Pos} (hP : P i = false) (hN : X.N.Nodup) (hi : X.N[i]? = some x) (hx : Loc X.env.scope x) (he : SE X t W a ma) (hs : swapsWith a (some (.Name x pos')) pos.line X.env = pure false := by rfl)
    (hf : X.fn x = true ∨ X.env.scope.names.lookup x = some .local := by first | exact .inl rfl | exact .inr rfl | assumption) : SS X t W P (.Assign [.Name x pos'] a pos) (sSet i ma) := by
  refine PS.imp (ps_set hN hi hx he hs hf) fun D σ H ⟨e, H0, Fr, as, rp, po⟩ => ?_
  exact ⟨e, H0, Fr, as, rp, PoS.of po fun r e1 v H1 H' s rr po => set_ok hP rr po⟩
/-! ### targets -/
def tGt (c : Cn) (P : Nat → Bool) (tg : Tg) : TG := fun v σ H Q => ∃ (e : Env) (H0 Fr : Hp) (as : Nat → List Addr) (d : D) (e' : Env), Rp c H0 Fr H σ e as ∧ Dat c H0 d v ∧ tg.put d e = some e' ∧ ∀ σ' as', Prot P σ σ' → Rp c H0 Fr H σ' e' as' → Q σ' H
def tGts (c : Cn) (P : Nat → Bool) (tgs : List Tg) : TGs := fun vs σ H Q => ∃ (e : Env) (H0 Fr : Hp) (as : Nat → List Addr) (ds : List D) (e' : Env), Rp c H0 Fr H σ e as ∧ Dats c H0 ds vs ∧ putAll tgs ds e = some e' ∧ ∀ σ' as', Prot P σ σ' → Rp c H0 Fr H σ' e' as' → Q σ' H
abbrev SG (X : Cx) (t : Tb) (P : Nat → Bool) (target : Expr) (tg : Tg) : Prop := PG X target (tGt (cn X t) P tg)
abbrev SGs (X : Cx) (t : Tb) (P : Nat → Bool) (ts : List Expr) (tgs : List Tg) : Prop := PGs X ts (tGts (cn X t) P tgs)
theorem PG.imp {X : Cx} {tg : Expr} {u u' : TG} (h : PG X tg u) (k : ∀ v σ H Q, u' v σ H Q → u v σ H Q) : PG X tg u' := ⟨fun pins s σ H v u Q I r q => h.run pins s σ H v u Q I r (k _ _ _ _ q)⟩
theorem PGs.imp {X : Cx} {ts : List Expr} {u u' : TGs} (h : PGs X ts u) (k : ∀ v σ H Q, u' v σ H Q → u v σ H Q) : PGs X ts u' := ⟨fun pins s σ H v u Q I r q => h.run pins s σ H v u Q I r (k _ _ _ _ q)⟩
theorem sg_name {i : Nat} {x : Str} (hP : P i = false) (hN : X.N.Nodup) (hi : X.N[i]? = some x) (hx : Loc X.env.scope x) (hf : X.fn x = true ∨ X.env.scope.names.lookup x = some .local := by first | exact .inl rfl | exact .inr rfl | assumption) : SG X t P (.Name x pos) (.nm i) := by
  refine PG.imp (pg_name hN hi hx hf) fun v σ H Q ⟨e, H0, Fr, as, d, e', rp, hd, hp, q⟩ => ?_
  cases hp
  exact q _ _ (Prot.set hP) (rp.setSh hd)
theorem sgs_nil : SGs X t P [] [] := by
  refine PGs.imp pgs_nil fun vs σ H Q ⟨e, H0, Fr, as, ds, e', rp, hd, hp, q⟩ => ?_
  cases ds with
  | nil =>
    cases hp
    exact ⟨hd, q σ as Prot.refl rp⟩
  | cons d ds => cases hp
theorem sgs_cons {g : Expr} {gs : List Expr} {tg : Tg} {tgs : List Tg} (h1 : SG X t P g tg) (h2 : SGs X t P gs tgs)
    (hs : (assignEach (g :: gs) X.env).map (·.2) = assign g X.env :: (assignEach gs X.env).map (·.2) := by rfl) : SGs X t P (g :: gs) (tg :: tgs) := by
  refine PGs.imp (pgs_cons h1 h2 hs) fun vs σ H Q ⟨e, H0, Fr, as, ds, e', rp, hd, hp, q⟩ => ?_
  cases ds with
  | nil => cases hp
  | cons d ds =>
    obtain ⟨v, r, h1, h2, h3⟩ := hd
    have hp : (match tg.put d e with
      | some e1 => putAll tgs ds e1
      | none => none) = some e' := hp
    cases q1 : tg.put d e with
    | none =>
      rw [q1] at hp
      cases hp
    | some e1 =>
      rw [q1] at hp
      exact ⟨v, r, h1, e, H0, Fr, as, d, e1, rp, h2, q1, fun σ' as' p rp' => ⟨e1, H0, Fr, as', ds, e', rp', h3, hp, fun σ2 as2 p2 rp2 => q σ2 as2 (p.trans p2) rp2⟩⟩
theorem putAll_len : ∀ {tgs : List Tg} {ds : List D} {e e' : Env}, putAll tgs ds e = some e' → ds.length = tgs.length
  | [], [], _, _, _ => rfl
  | [], _ :: _, _, _, h => by cases h
  | _ :: _, [], _, _, h => by cases h
  | tg :: tgs, d :: ds, e, e', h => by
    have hp : (match tg.put d e with
      | some e1 => putAll tgs ds e1
      | none => none) = some e' := h
    cases q1 : tg.put d e with
    | none =>
      rw [q1] at hp
      cases hp
    | some e1 =>
      rw [q1] at hp
      simp [putAll_len hp]
theorem sg_tup {gs : List Expr} {k : Nat} {tgs : List Tg} (hc : X.calm = true) (h : SGs X t P gs tgs) (hn : (assignEach gs X.env).length = tgs.length := by rfl) (hst : (assignEach gs X.env).findIdx? (·.1) = none := by rfl) : SG X t P (.Tuple gs k pos) (.tp tgs) := by
  refine PG.imp (pg_tup hc h hn hst) fun v σ H Q ⟨e, H0, Fr, as, d, e', rp, hd, hp, q⟩ => ?_
  cases d with
  | tup ds =>
    obtain ⟨_, a, vs, h1, h2, h3⟩ := hd
    have hp : putAll tgs ds e = some e' := hp
    exact ⟨a, vs, h1, SqT.same rp.sub h2, by rw [h3.len, putAll_len hp], e, H0, Fr, as, ds, e', rp, h3, hp, q⟩
  | _ => cases hp
theorem ss_unp {target : Expr} {tg : Tg} (he : SE X t W a ma) (hg : SG X t P target tg) (hs : swapsWithSole [target] a pos.line X.env = pure false := by rfl) (hw : swappedStores [target] a X.env = pure none := by rfl) (h1 : (assignEach [target] X.env).map (·.2) = [assign target X.env] := by rfl) : SS X t W P (.Assign [target] a pos) (sUnp tg ma) := by
  refine PS.imp (ps_asg he hg hs hw h1) fun D σ H ⟨e, H0, Fr, as, rp, po⟩ => ?_
  refine ⟨e, H0, Fr, as, rp, PoS.of po fun r e1 v H1 H' s rr po => ?_⟩
  obtain ⟨d, e2, H2, as2, q, s2, rp2, hd, po⟩ := PoS.leak po rr
  obtain ⟨e3, q3, po⟩ := PoS.ofOS po
  exact ⟨e2, H2, Fr, as2, d, e3, rp2, hd, q3, fun σ' as' p rp' => po σ' H2 H' as' (Same.refl _) p rp'⟩
/-! ### loops -/
/-- items, walked -/
def WkD (c : Cn) (H1 : Hp) (J : It) (items : List D) : Prop := ∃ (G : Hp → Prop) (Y : Nat → Hp → V → Hp → Prop), Walk J items.length G Y ∧ (∀ H2 H', Same H1 H2 → Same H2 H' → G H') ∧
  ∀ i H2 H' x H'', i < items.length → Same H1 H2 → Same H2 H' → Y i H' x H'' → ∃ d, items[i]? = some d ∧ ((H'' = H' ∧ Dat c H2 d x) ∨ ∃ p o, x = .ref p ∧ H' p = none ∧ H'' = upd H' p o ∧ Dat c (upd H2 p o) d x)
def rrI (c : Cn) : Hp → St → Hp → Hp → Env → It → List D → Prop := fun Fr σ H1 H' e J items => (∃ as, Rp c H1 Fr H' σ e as) ∧ WkD c H1 J items
def tIt (t : Tb) (c : Cn) (W : WX) (m : M (List D)) : TI := fun σ H Rr => tG t c W (rrI c) m σ H Rr
abbrev SI (X : Cx) (t : Tb) (W : WX) (tg it : Expr) (m : M (List D)) : Prop := PI X tg it (tIt t (cn X t) W m)
theorem PI.imp {X : Cx} {tg it : Expr} {u u' : TI} (h : PI X tg it u) (k : ∀ σ H Q, u' σ H Q → u σ H Q) : PI X tg it u' := ⟨fun pins s σ H R I q => h.run pins s σ H R I (k _ _ _ q)⟩
/-- the item of a turn -/
theorem wk_item {c : Cn} {H1 H2 Fr H' H'' : Hp} {items : List D} {σ : St} {e : Env} {as : Nat → List Addr} {i : Nat} {x : V} {G : Hp → Prop} {Y : Nat → Hp → V → Hp → Prop}
    (hy : ∀ i H2 H' x H'', i < items.length → Same H1 H2 → Same H2 H' → Y i H' x H'' → ∃ d, items[i]? = some d ∧ ((H'' = H' ∧ Dat c H2 d x) ∨ ∃ p o, x = .ref p ∧ H' p = none ∧ H'' = upd H' p o ∧ Dat c (upd H2 p o) d x))
    (hi : i < items.length) (s : Same H1 H2) (rp : Rp c H2 Fr H' σ e as) (y : Y i H' x H'') : ∃ d H3, items[i]? = some d ∧ Same H2 H3 ∧ Rp c H3 Fr H'' σ e as ∧ Dat c H3 d x := by
  obtain ⟨d, e1, q⟩ := hy i H2 H' x H'' hi s rp.sub y
  rcases q with ⟨rfl, hd⟩ | ⟨p, o, rfl, hp, rfl, hd⟩
  · exact ⟨d, H2, e1, Same.refl _, rp, hd⟩
  · exact ⟨d, _, e1, (rp.alloc hp).1, (rp.alloc hp).2, hd⟩
theorem drop_cons {α : Type} {l : List α} {i : Nat} {d : α} (h : l[i]? = some d) : l.drop i = d :: l.drop (i + 1) := by
  obtain ⟨h1, h2⟩ := List.getElem?_eq_some_iff.mp h
  rw [List.drop_eq_getElem_cons h1, h2]
theorem ss_for {target it : Expr} {body : List Stmt} {tg : Tg} {mi : M (List D)} {mb : MS} (hp : PassesOwn (model X.prog X.w) X.A X.env X.xe) (hc : X.calm = true) (hi : SI X t W target it mi) (hg : SG X t P target tg) (hb : SSs X t W P body mb)
    (hs : ∀ x, foldedSetIterable it X.env x = pure x := by intro _; rfl) : SS X t W P (.For target it body [] pos) (sFor tg mi mb) := by
  refine PS.imp (ps_for hp hc hi hg hb hs) fun D σ H ⟨e, H0, Fr, as, rp, po⟩ => ?_
  refine ⟨e, H0, Fr, as, rp, PoS.of po fun items e1 J H1 H' s ⟨⟨as1, rp1⟩, G, Y, wk, hG, hY⟩ po => ?_⟩
  refine for_it wk (fun i σ' H'' => ∃ e' H2 as', Same H1 H2 ∧ Prot P σ σ' ∧ Rp (cn X t) H2 Fr H'' σ' e' as' ∧ PoS t (cn X t) W P Fr σ H1 D (forL tg mb (items.drop i) e'))
    ⟨e1, H1, as1, Same.refl _, Prot.refl, rp1, by simpa using po⟩ (fun i σ' H'' _ ⟨e', H2, as', s2, _, rp2, _⟩ => hG H2 H'' s2 rp2.sub) ?_ ?_
  · rintro i x σ' H2' H3' hi ⟨e', H2, as', s2, p2, rp2, po2⟩ y
    obtain ⟨d, H3, e3, s3, rp3, hd⟩ := wk_item (G := G) hY hi s2 rp2 y
    rw [drop_cons e3] at po2
    have po2 : PoS t (cn X t) W P Fr σ H1 D (match tg.put d e' with
      | some e1 => (match mb e1 with
        | .nx e2 => forL tg mb (items.drop (i + 1)) e2
        | .ct e2 => forL tg mb (items.drop (i + 1)) e2
        | .bk e2 => .nx e2
        | r => r)
      | none => .bad) := po2
    cases q : tg.put d e' with
    | none =>
      rw [q] at po2
      exact po2.elim
    | some e2 =>
      rw [q] at po2
      have po2 : PoS t (cn X t) W P Fr σ H1 D (match mb e2 with
        | .nx e2 => forL tg mb (items.drop (i + 1)) e2
        | .ct e2 => forL tg mb (items.drop (i + 1)) e2
        | .bk e2 => .nx e2
        | r => r) := po2
      refine ⟨e', H3, Fr, as', d, e2, rp3, hd, q, fun σ2 as2 p3 rp4 => ⟨e2, H3, Fr, as2, rp4, ?_⟩⟩
      have s13 : Same H1 H3 := s2.trans s3
      have p13 : Prot P σ σ2 := p2.trans p3
      cases q2 : mb e2 with
      | nx e5 =>
        rw [q2] at po2
        exact fun σ3 H4 H4' as4 s4 p4 rp5 => ⟨e5, H4, as4, s13.trans s4, p13.trans p4, rp5, po2⟩
      | ct e5 =>
        rw [q2] at po2
        exact fun σ3 H4 H4' as4 s4 p4 rp5 => ⟨e5, H4, as4, s13.trans s4, p13.trans p4, rp5, po2⟩
      | bk e5 =>
        rw [q2] at po2
        exact fun σ3 H4 H4' as4 s4 p4 rp5 => po2 σ3 H4 H4' as4 (s13.trans s4) (p13.trans p4) rp5
      | rt o e5 =>
        rw [q2] at po2
        exact fun v σ3 H4 H4' s4 p4 rp5 => po2 v σ3 H4 H4' (s13.trans s4) (p13.trans p4) rp5
      | ex k p e5 =>
        rw [q2] at po2
        exact fun σ3 H4 H4' as4 cls dx s4 p4 rp5 xa => po2 σ3 H4 H4' as4 cls dx (s13.trans s4) (p13.trans p4) rp5 xa
      | bad =>
        rw [q2] at po2
        exact po2
  · rintro σ' H2' ⟨e', H2, as', s2, p2, rp2, po2⟩
    rw [List.drop_length] at po2
    exact po2 σ' H2 H2' as' s2 p2 rp2
theorem ss_while {cnd : Expr} {body : List Stmt} {mc : M Bool} {mb : MS} (n : Nat) (hp : PassesOwn (model X.prog X.w) X.A X.env X.xe) (hc : SB X t W cnd mc) (hb : SSs X t W P body mb) : SS X t W P (.While cnd body [] pos) (sWhile n mc mb) := by
  refine PS.imp (ps_while hp hc hb) fun D σ H ⟨e, H0, Fr, as, rp, po⟩ => ?_
  refine ⟨fun k σ' H' => ∃ e' H2 as', Same H0 H2 ∧ Prot P σ σ' ∧ Rp (cn X t) H2 Fr H' σ' e' as' ∧ PoS t (cn X t) W P Fr σ H0 D (whL mc mb k e'), ⟨n, e, H0, as, Same.refl _, Prot.refl, rp, po⟩, ?_⟩
  rintro k σ' H' ⟨e', H2, as', s2, p2, rp2, po2⟩
  cases k with
  | zero => exact po2.elim
  | succ k =>
    have po2 : PoS t (cn X t) W P Fr σ H0 D (match mc e' with
      | .ok true e1 => (match mb e1 with
        | .nx e2 => whL mc mb k e2
        | .ct e2 => whL mc mb k e2
        | .bk e2 => .nx e2
        | r => r)
      | .ok false e1 => .nx e1
      | .ex k p e1 => .ex k p e1
      | .bad => .bad) := po2
    refine ⟨e', H2, Fr, as', rp2, ?_⟩
    cases q : mc e' with
    | bad =>
      rw [q] at po2
      exact po2
    | ex j p e1 =>
      rw [q] at po2
      exact fun H3 H3' as3 cls dx s3 rp3 xa => po2 σ' H3 H3' as3 cls dx (s2.trans s3) p2 rp3 xa
    | ok b e1 =>
      rw [q] at po2
      rintro b' H3 H3' s3 ⟨rfl, as3, rp3⟩
      cases b' with
      | false => exact po2 σ' H3 H3' as3 (s2.trans s3) p2 rp3
      | true =>
        have po2 : PoS t (cn X t) W P Fr σ H0 D (match mb e1 with
          | .nx e2 => whL mc mb k e2
          | .ct e2 => whL mc mb k e2
          | .bk e2 => .nx e2
          | r => r) := po2
        refine ⟨fun σ2 H2' => ∃ e' H2 as', Same H0 H2 ∧ Prot P σ σ2 ∧ Rp (cn X t) H2 Fr H2' σ2 e' as' ∧ PoS t (cn X t) W P Fr σ H0 D (whL mc mb k e'), fun σ2 H2' h => ⟨k, Nat.lt_succ_self k, h⟩, ⟨e1, H3, Fr, as3, rp3, ?_⟩⟩
        have s03 : Same H0 H3 := s2.trans s3
        cases q2 : mb e1 with
        | nx e5 =>
          rw [q2] at po2
          exact fun σ3 H4 H4' as4 s4 p4 rp5 => ⟨e5, H4, as4, s03.trans s4, p2.trans p4, rp5, po2⟩
        | ct e5 =>
          rw [q2] at po2
          exact fun σ3 H4 H4' as4 s4 p4 rp5 => ⟨e5, H4, as4, s03.trans s4, p2.trans p4, rp5, po2⟩
        | bk e5 =>
          rw [q2] at po2
          exact fun σ3 H4 H4' as4 s4 p4 rp5 => po2 σ3 H4 H4' as4 (s03.trans s4) (p2.trans p4) rp5
        | rt o e5 =>
          rw [q2] at po2
          exact fun v σ3 H4 H4' s4 p4 rp5 => po2 v σ3 H4 H4' (s03.trans s4) (p2.trans p4) rp5
        | ex k p e5 =>
          rw [q2] at po2
          exact fun σ3 H4 H4' as4 cls dx s4 p4 rp5 xa => po2 σ3 H4 H4' as4 cls dx (s03.trans s4) (p2.trans p4) rp5 xa
        | bad =>
          rw [q2] at po2
          exact po2
end
end F
end

section
set_option Elab.async false
set_option linter.all false
set_option autoImplicit false
set_option maxRecDepth 100000
/-! F layer, part F: comprehensions, things changed in place, defs. -/
namespace F
open PySem PySem.Spec PyProof.Rows L2
section
variable {c : Cn} {H0 Fr H : Hp} {σ : St} {e : Env} {as : Nat → List Addr}
/-- a thing of the frame is changed -/
theorem Rp.frUpd (r : Rp c H0 Fr H σ e as) {p : Addr} {o x : HO} (h : Fr p = some o) : Rp c H0 (upd Fr p x) (upd H p x) σ e as := by
  obtain ⟨h1, h2⟩ := r.fr p o h
  have nas : ∀ {i a}, a ∈ as i → a ≠ p := fun {i a} ha z => by
    have := (r.off i a ha).2
    rw [z, h] at this
    cases this
  refine ⟨r.len, fun b y hb => by rw [upd_ne (ne_of_none hb h2)]; exact r.sub b y hb, fun b y hb => ?_, fun i o' q => ?_, fun i a ha => ⟨(r.off i a ha).1, by rw [upd_ne (nas ha)]; exact (r.off i a ha).2⟩, r.sep, r.nd, r.emp, r.tab.re (Same.refl _) (fun q hq => upd_ne fun z => by have := r.tab.nF q hq; rw [z, h] at this; cases this) r.tab.n0 (fun q hq => by rw [upd_ne fun z => by have := r.tab.nF q hq; rw [z, h] at this; cases this]; exact r.tab.nF q hq) r.tab.na⟩
  · by_cases z : b = p
    · subst z
      rw [upd_same] at hb ⊢
      exact ⟨hb, h2⟩
    · rw [upd_ne z] at hb ⊢
      exact r.fr b y hb
  · obtain ⟨v, h3, h4⟩ := r.own i o' q
    exact ⟨v, h3, OwnR.mono (fun _ _ z => z) o' v _ (fun a ha => upd_ne (nas ha)) h4⟩
/-- a new object that goes to the frame -/
theorem Rp.frNew (r : Rp c H0 Fr H σ e as) {p : Addr} {x : HO} (hp : H p = none) : Rp c H0 (upd Fr p x) (upd H p x) σ e as := by
  have h0 : H0 p = none := by
    cases q : H0 p with
    | none => rfl
    | some y =>
      rw [r.sub p y q] at hp
      cases hp
  have sH : Same H (upd H p x) := fun b o e => by rw [upd_ne (ne_of_none e hp)]; exact e
  have r2 := r.heap sH
  refine ⟨r2.len, r2.sub, fun b o hb => ?_, r2.own, fun i a ha => ⟨(r.off i a ha).1, ?_⟩, r2.sep, r2.nd, r2.emp, r2.tab.re (Same.refl _) (fun _ _ => rfl) r2.tab.n0 (fun q hq => by rw [upd_ne (r.tab.ne hq hp)]; exact r2.tab.nF q hq) r2.tab.na⟩
  · by_cases z : b = p
    · subst z
      rw [upd_same] at hb ⊢
      exact ⟨hb, h0⟩
    · rw [upd_ne z] at hb
      exact r2.fr b o hb
  · obtain ⟨y, hy⟩ := r.here ha
    rw [upd_ne (ne_of_none hy hp)]
    exact (r.off i a ha).2
/-- own slots are wiped -/
theorem wipe_len (e : Env) : ∀ own : List Nat, ∀ e : Env, (wipeE e own).length = e.length
  | [], e => rfl
  | i :: is, e => by
    unfold wipeE
    rw [wipe_len e is]
    simp
theorem wipe_slot : ∀ {own : List Nat} {e : Env} {i : Nat} {o : O}, slot (wipeE e own) i = some o → i ∉ own ∧ slot e i = some o
  | [], e, i, o, h => ⟨by simp, h⟩
  | j :: js, e, i, o, h => by
    obtain ⟨h1, h2⟩ := wipe_slot (own := js) (e := e.set j none) h
    obtain ⟨h3, h4⟩ := slot_none h2
    exact ⟨by simp [h1, h3], h4⟩
theorem wipe_get {σ : St} {i : Nat} : ∀ {vs : List Nat}, i ∉ vs → (wipe σ vs)[i]? = σ[i]?
  | [], _ => rfl
  | v :: vs, h => by
    unfold wipe
    rw [List.getElem?_set_ne fun z => h (by simp [z])]
    exact wipe_get fun z => h (by simp [z])
theorem Rp.wipe (r : Rp c H0 Fr H σ e as) (own : List Nat) : ∃ as', Rp c H0 Fr H (L2.wipe σ own) (wipeE e own) as' := by
  refine r.re (by rw [wipe_len e, wipe_length]; exact r.len) id (fun i o q => ?_) (fun i j _ _ _ _ h => h)
  obtain ⟨h1, h2⟩ := wipe_slot q
  exact ⟨h2, wipe_get h1⟩
/-- behind a comprehension -/
theorem Rp.unwipe {e0 : Env} {H1 : Hp} : ∀ {own is : List Nat} {e : Env} {as : Nat → List Addr}, Rp c H0 Fr H σ e as → (∀ i d, slot e0 i = some (.sh d) → ∃ v, σ[i]? = some (some v) ∧ Dat c H0 d v) → ∃ as', Rp c H0 Fr H σ (unwipe e0 e is) as'
  | own, [], e, as, r, h => ⟨as, r⟩
  | own, i :: is, e, as, r, h => by
    unfold F.unwipe
    split
    · rename_i d q
      obtain ⟨v, h1, h2⟩ := h i d q
      have r2 := r.setSh (i := i) h2
      have hs : σ.set i (some v) = σ := by
        apply List.ext_getElem?
        intro j
        by_cases z : i = j
        · subst z
          rw [List.getElem?_set_self (List.getElem?_eq_some_iff.mp h1).1, h1]
        · rw [List.getElem?_set_ne z]
      rw [hs] at r2
      exact Rp.unwipe (own := own) (H1 := H1) r2 h
    · exact Rp.unwipe (own := own) (H1 := H1) r h
end
abbrev W0 : WX := fun _ _ _ _ => False
abbrev STs (X : Cx) (t : Tb) (ifs : List Expr) (m : M Bool) : Prop := PTs X ifs (tG t (cn X t) W0 (rrB (cn X t)) m)
theorem sts_nil {X : Cx} {t : Tb} : STs X t [] mYes := by
  refine ⟨fun pins s σ H Q I ⟨e, H0, Fr, as, rp, po⟩ => pts_nil.run pins s σ H Q I ?_⟩
  exact po true H0 H (Same.refl _) ⟨rfl, as, rp⟩
theorem sts_one {X : Cx} {t : Tb} {c : Expr} {m : M Bool} (h : SB X t W0 c m) : STs X t [c] m := pts_one h
theorem wipe_in {σ : St} : ∀ {vs : List Nat} {i : Nat}, i ∈ vs → i < σ.length → (L2.wipe σ vs)[i]? = some none
  | [], _, h, _ => by cases h
  | v :: vs, i, h, hl => by
    show ((L2.wipe σ vs).set v none)[i]? = some none
    by_cases z : v = i
    · subst z
      exact List.getElem?_set_self (by rw [wipe_length]; exact hl)
    · rw [List.getElem?_set_ne z]
      rcases List.mem_cons.mp h with e | e
      · exact absurd e.symm z
      · exact wipe_in e hl
theorem wipe_eq {σ σ2 : St} {own : List Nat} (h : Prot (fun i => !own.contains i) (L2.wipe σ own) σ2) : L2.wipe σ2 own = L2.wipe σ own := by
  have hl : σ2.length = σ.length := by rw [h.1, wipe_length]
  apply List.ext_getElem?
  intro i
  by_cases hi : i ∈ own
  · by_cases hlt : i < σ.length
    · rw [wipe_in hi hlt, wipe_in hi (by omega)]
    · rw [List.getElem?_eq_none (by rw [wipe_length]; omega), List.getElem?_eq_none (by rw [wipe_length]; omega)]
  · rw [wipe_get hi, h.2 i (by simpa using hi)]
section
variable {X : Cx} {t : Tb} {W : WX}
theorem lc_read {mi : M (List D)} {own : List Nat} {tg : Tg} {mc : M Bool} {mv : M R} {σ : St} {H : Hp} {Q : VK} (q : tI X t W (mLc own tg mi mc mv) σ H Q) :
    tLc (tIt t (cn X t) W mi) (tGt (cn X t) (fun i => !own.contains i) tg) (tG t (cn X t) W0 (rrB (cn X t)) mc) (tI X t W0 mv) own σ H Q := by
  obtain ⟨e, H0, Fr, as, rp, po⟩ := q
  refine ⟨e, H0, Fr, as, rp, po.bind fun items e1 J H1 H' s ⟨⟨as1, rp1⟩, G, Y, wk, hG, hY⟩ po => ?_⟩
  intro L hL
  by_cases hlim : items.length ≤ lim
  case neg =>
    rw [if_neg hlim] at po
    exact po.elim
  rw [if_pos hlim] at po
  have h1L : H1 L = none := by
    cases z : H1 L with
    | none => rfl
    | some y =>
      rw [rp1.sub L y z] at hL
      cases hL
  have hFL : Fr L = none := by
    cases z : Fr L with
    | none => rfl
    | some y =>
      rw [(rp1.fr L y z).1] at hL
      cases hL
  -- what is kept of the names' shared data
  have old : ∀ i d, slot e1 i = some (.sh d) → ∃ v, σ[i]? = some (some v) ∧ Dat (cn X t) H1 d v := fun i d z => by
    obtain ⟨v, h1, h2⟩ := rp1.own i _ z
    exact ⟨v, h1, h2.2⟩
  obtain ⟨as0, rp0⟩ := rp1.wipe own
  refine lc_it wk (fun i H'' => ∃ (e' : Env) (H2 : Hp) (as' : Nat → List Addr) (acc : List D) (ws : List V), Same H1 H2 ∧ Rp (cn X t) H2 (upd Fr L (.lst ws)) H'' (L2.wipe σ own) e' as' ∧ Dats (cn X t) H2 acc ws ∧ acc.length ≤ i ∧
      Po t (cn X t) W Fr σ H1 (rrR (cn X t) Fr σ) Q (lcEnd e1 own (lcL own tg mc mv (items.drop i) acc e'))) ⟨wipeE e1 own, H1, as0, [], [], Same.refl _, rp0.frNew hL, rfl, Nat.le_refl _, by simpa using po⟩ (fun i H'' _ ⟨e', H2, as', acc, ws, s2, rp2, _⟩ => hG H2 H'' s2 rp2.sub) ?_ ?_
  · rintro i x Hi Hx hi ⟨e', H2, as', acc, ws, s2, rp2, hacc, hlen, po2⟩ y
    obtain ⟨d, H3, e3, s3, rp3, hd⟩ := wk_item (G := G) hY hi s2 rp2 y
    rw [drop_cons e3] at po2
    unfold lcL at po2
    cases q : tg.put d e' with
    | none =>
      rw [q] at po2
      exact po2.elim
    | some e2 =>
      rw [q] at po2
      dsimp only at po2
      refine ⟨e', H3, upd Fr L (.lst ws), as', d, e2, rp3, hd, q, fun σ2 as2 p3 rp4 => ?_⟩
      have hw := wipe_eq p3
      refine ⟨hw, e2, H3, upd Fr L (.lst ws), as2, rp4, ?_⟩
      cases qc : mc e2 with
      | bad =>
        rw [qc] at po2
        exact po2.elim
      | ex _ _ _ =>
        rw [qc] at po2
        exact po2.elim
      | ok b e4 =>
        rw [qc] at po2
        rintro b' H4 H4' s4 ⟨rfl, as4, rp4⟩
        cases b' with
        | false =>
          dsimp only at po2
          rw [if_neg Bool.false_ne_true]
          obtain ⟨as5, rp5⟩ := rp4.wipe own
          rw [hw] at rp5
          exact ⟨_, H4, as5, acc, ws, (s2.trans s3).trans s4, rp5, Dats.mono (s3.trans s4) _ _ hacc, by omega, po2⟩
        | true =>
          dsimp only at po2
          rw [if_pos rfl]
          refine ⟨e4, H4, upd Fr L (.lst ws), as4, rp4, ?_⟩
          cases qv : mv e4 with
          | bad =>
            rw [qv] at po2
            exact po2.elim
          | ex _ _ _ =>
            rw [qv] at po2
            exact po2.elim
          | ok r e5 =>
            rw [qv] at po2
            dsimp only at po2
            intro v H5 H5' s5 rr
            rcases leak_ok (e' := e5) rr with ⟨d6, e6, ql⟩ | ql
            · rw [ql] at po2
              dsimp only at po2
              obtain ⟨H6, as6, s6, rp6, hd6⟩ := RpR.leak rr ql
              have hL6 : H5' L = some (.lst ws) := (rp6.fr L _ upd_same).1
              have hwl : ws.length = acc.length := hacc.len
              have hz : sizeLine = lim := sizeLine_lim
              refine ⟨ws, hL6, by omega, ?_⟩
              obtain ⟨as7, rp7⟩ := rp6.wipe own
              rw [hw] at rp7
              have rp8 := rp7.frUpd (p := L) (x := .lst (ws ++ [v])) upd_same
              rw [upd_upd] at rp8
              have s26 : Same H2 H6 := ((s3.trans s4).trans s5).trans s6
              exact ⟨_, H6, as7, acc ++ [d6], ws ++ [v], s2.trans s26, rp8, Dats.app (Dats.mono s26 _ _ hacc) (Dats.one hd6), by simp; omega, po2⟩
            · rw [ql] at po2
              exact po2.elim
  · rintro H'' ⟨e', H2, as', acc, ws, s2, rp2, hacc, hlen, po2⟩
    rw [List.drop_length] at po2
    have po2 : Po t (cn X t) W Fr σ H1 (rrR (cn X t) Fr σ) Q (.ok (.ow (.fl acc)) (unwipe e1 e' own)) := po2
    have rp3 : Rp (cn X t) H2 (upd Fr L (.lst ws)) H'' σ e' as' := by
      refine rp2.other (by rw [wipe_length]) fun i o q => ?_
      obtain ⟨v, h1, _⟩ := rp2.own i o q
      rw [(wipe_some h1).1, h1]
    obtain ⟨as4, rp4⟩ := rp3.unwipe (e0 := e1) (own := own) (H1 := H1) (is := own) fun i d z => by
      obtain ⟨v, h1, h2⟩ := old i d z
      exact ⟨v, h1, Dat.mono s2 _ _ h2⟩
    refine po2 (.ref L) H2 H'' s2 ⟨[L], as4, ⟨?_, L, ws, rfl, rfl, ?_, hacc⟩, by simp, fun a ha => ?_, ?_⟩
    · omega
    · exact (rp2.fr L _ upd_same).1
    · rw [List.mem_singleton.mp ha]
      exact ⟨(rp2.fr L _ upd_same).2, hFL⟩
    · have hF : addF Fr H'' [L] = upd Fr L (.lst ws) := by
        funext b
        by_cases z : b = L
        · subst z
          rw [addF_in (by simp), upd_same]
          exact (rp2.fr b _ upd_same).1
        · rw [addF_out (by simpa using z), upd_ne z]
      rw [hF]
      exact rp4
variable {elt target iter : Expr} {ifs : List Expr} {scope : Scope} {own : List (Str × Nat)} {pos spos py : Pos} {tg : Tg} {mi : M (List D)} {mc : M Bool} {mv : M R} {P : Nat → Bool}
abbrev Blk (X : Cx) (scope : Scope) (s : Shared) (H : Hp) (C : Addr) (cl : List (Str × Addr)) (fp : List Addr) : Cx := X.blk s H scope (compEnvC scope cl C X.env) fp
theorem se_lc (hc : X.calm = true) (hN : X.N.Nodup) (hi : SI X t W target iter mi) (ok : BlkOk X.N X.env.scope scope own)
    (hg : ∀ s H C cl fp, SG (Blk X scope s H C cl fp) t (fun i => !(own.map (·.2)).contains i) target tg) (ht : ∀ s H C cl fp, STs (Blk X scope s H C cl fp) t ifs mc)
    (he : ∀ s H C cl fp, SE (Blk X scope s H C cl fp) t W0 elt mv) (hs : ∀ x, foldedSetIterable iter X.env x = pure x := by intro _; rfl) :
    SE X t W (.ListComp elt [⟨target, iter, ifs, 0⟩] scope pos) (mLc (own.map (·.2)) tg mi mc mv) :=
  PE.imp (pe_lc (own := own) hc hN hi ok hg ht he hs) fun _ _ _ q => lc_read q
theorem ss_setLc {i : Nat} {y : Str} (hP : P i = false) (hc : X.calm = true) (hN : X.N.Nodup) (hy : X.N[i]? = some y) (hyl : X.env.scope.names.lookup y = some .local)
    (hsw : swapsWith (.ListComp elt [⟨target, iter, ifs, 0⟩] scope pos) (some (.Name y py)) spos.line X.env = pure true) (hi : SI X t W target iter mi) (ok : BlkOk X.N X.env.scope scope own)
    (hg : ∀ s H C cl fp, SG (Blk X scope s H C cl fp) t (fun i => !(own.map (·.2)).contains i) target tg) (ht : ∀ s H C cl fp, STs (Blk X scope s H C cl fp) t ifs mc)
    (he : ∀ s H C cl fp, SE (Blk X scope s H C cl fp) t W0 elt mv) (hs : ∀ x, foldedSetIterable iter X.env x = pure x := by intro _; rfl) :
    SS X t W P (.Assign [.Name y py] (.ListComp elt [⟨target, iter, ifs, 0⟩] scope pos) spos) (sSet i (mLc (own.map (·.2)) tg mi mc mv)) := by
  refine PS.imp (ps_setLc (own := own) (g := tGt (cn X t) (fun i => !(own.map (·.2)).contains i) tg) (tt := tG t (cn X t) W0 (rrB (cn X t)) mc) (te := tI X t W0 mv) hc hN hy hyl hsw hi ok hg ht he hs) fun D σ H ⟨e, H0, Fr, as, rp, po⟩ => ?_
  exact lc_read (t := t) ⟨e, H0, Fr, as, rp, PoS.of po fun r e1 v H1 H' s rr po => set_ok hP rr po⟩
end
/-! ### things changed in place -/
section
variable {X : Cx} {t : Tb} {W : WX} {P : Nat → Bool} {a b k v : Expr} {ma mb mk mv : M R} {pos apos cpos p1 : Pos} {i : Nat}
/-- a name's own list, at its address -/
theorem Rp.lst {c : Cn} {H0 Fr H : Hp} {σ : St} {e : Env} {as : Nat → List Addr} (r : Rp c H0 Fr H σ e as) {i : Nat} {l : List D} (q : slot e i = some (.fl l)) {v : V} (hv : σ[i]? = some (some v)) :
    l.length ≤ lim ∧ ∃ p vs, v = .ref p ∧ H p = some (.lst vs) ∧ Dats c H0 l vs ∧
      ∀ l' vs', l'.length ≤ lim → Dats c H0 l' vs' → Rp c H0 Fr (upd H p (.lst vs')) σ (e.set i (some (.fl l'))) as := by
  obtain ⟨w, h1, hl, p, vs, h2, h3, h4, h5⟩ := r.own i _ q
  rw [hv] at h1
  cases h1
  refine ⟨hl, p, vs, h2, h4, h5, fun l' vs' hl' hd => r.mut q h3 fun w hw _ => ?_⟩
  rw [hv] at hw
  cases hw
  exact ⟨hl', p, vs', h2, rfl, upd_same, hd⟩
def MOp1 (c : Cn) (r : V → List V → Hp → VK → Prop) (f : List D → D → Option (D × List D)) : Prop := ∀ (H0 H : Hp) (p : Addr) (l : List D) (vs : List V) (x d : D) (y : V) (l' : List D) (Q : VK), Same H0 H → f l x = some (d, l') → l.length ≤ lim → H p = some (.lst vs) → Dats c H0 l vs → Dat c H0 x y →
  (∀ z vs', l'.length ≤ lim → Dats c H0 l' vs' → Dat c H0 d z → Q z (upd H p (.lst vs'))) → r (.ref p) [y] H Q
theorem tyV_lst {K : PySem.W.Frag} {H : Hp} {p : Addr} {vs : List V} (h : H p = some (.lst vs)) : tyV K "list" (.ref p) H := Or.inl ⟨rfl, vs, SqL.of h⟩
theorem se_mut1 {x name : Str} {id : String} {r : V → List V → Hp → VK → Prop} {f : List D → D → Option (D × List D)} (slot : Slot "list" name id) (hty : typeOf (.builtin id) = pure (.type "method_descriptor")) (hm : MtR X id r) (hr : MOp1 (cn X t) r f) (ho : PE X (.Name x p1) (tVar i)) (ha : SE X t W a ma)
    (hs1 : starEach (a :: []) X.env = (false, eval a X.env) :: starEach [] X.env := by rfl)
    (hbase : attributeBase (.Name x p1) name X.env (eval (.Name x p1) X.env) = eval (.Name x p1) X.env := by rfl)
    (hfew : ((backTo cpos (starEach (a :: []) X.env)).all (fun x => !x.1) && (backToKw cpos (keywordEach [] X.env)).all (fun x => x.1.isSome)
      && decide ((a :: []).length + ([] : List Keyword).length + (if ([] : List Keyword).isEmpty then 0 else 1) < 30)) = true := by rfl)
    (hline : (apos.endLine == cpos.line) = true := by rfl) (hs : starEach (a :: []) X.env = (false, eval a X.env) :: starEach [] X.env := by rfl) (hplain : (backTo cpos (starEach [] X.env)).any (·.1) = false := by rfl) :
    SE X t W (.Call (.Attribute (.Name x p1) name apos) [a] [] cpos) (mMut1 i f ma) := by
  refine PE.imp (pe_bm PySem.F.plainAttrs_list slot hty hm ho (pa_cons ha pa_nil hs1) hbase hfew hline hs hplain) fun σ H Q ⟨e, H0, Fr, as, rp, po⟩ => ?_
  have po : Po t (cn X t) W Fr σ H0 (rrR (cn X t) Fr σ) Q (match F.slot e i with
    | some (.fl _) => andThen (ma e) fun r e1 => andThen (leak r e1) fun d e2 => (match F.slot e2 i with
      | some (.fl l) => ofO (f l d) fun p => .ok (.d p.1) (e2.set i (some (.fl p.2)))
      | _ => .bad)
    | _ => .bad) := po
  split at po
  · rename_i l0 q0
    obtain ⟨w, h1, _⟩ := rp.own i _ q0
    obtain ⟨_, p, vs0, rfl, h2, _, _⟩ := rp.lst q0 h1
    refine ⟨_, h1, tyV_lst h2, e, H0, Fr, as, rp, po.bind fun ra e1 y H1 H' s rr po => ?_⟩
    obtain ⟨x, e2, H2, as2, ql, s2, rp2, hx, po⟩ := po.leak rr
    split at po
    · rename_i l q
      obtain ⟨hl, p', vs, e3, h3, h4, h5⟩ := rp2.lst q h1
      cases e3
      obtain ⟨pr, e4, po⟩ := po.ofO
      obtain ⟨d, l'⟩ := pr
      exact hr H2 H' p l vs x d y l' Q rp2.sub e4 hl h3 h4 hx fun z vs' hl' hd hz => po z H2 _ (Same.refl _) ⟨⟨as2, h5 l' vs' hl' hd⟩, hz⟩
    · exact po.elim
  · exact po.elim
theorem ss_sto {x : Str} (ho : PE X (.Name x p1) (tVar i)) (hk : SE X t W k mk) (hv : SE X t W v mv)
    (ha : ∀ v, assign (.Subscript (.Name x p1) k apos) X.env v = (do
      let ov ← holding [v] (eval (.Name x p1) X.env)
      let iv ← holding [v, ov] (eval k X.env)
      standAt apos
      holding [v, ov, iv] (setItem ov iv v)
      release [v, ov, iv] []) := by intro _; rfl) (hs : swapsWithSole [.Subscript (.Name x p1) k apos] v pos.line X.env = pure false := by rfl) (hw : swappedStores [.Subscript (.Name x p1) k apos] v X.env = pure none := by rfl)
    (h1 : (assignEach [.Subscript (.Name x p1) k apos] X.env).map (·.2) = [assign (.Subscript (.Name x p1) k apos) X.env] := by rfl) : SS X t W P (.Assign [.Subscript (.Name x p1) k apos] v pos) (sSto i mk mv) := by
  refine PS.imp (ps_asg hv (pg_sub ho hk set_list ha) hs hw h1) fun D σ H ⟨e, H0, Fr, as, rp, po⟩ => ?_
  refine ⟨e, H0, Fr, as, rp, PoS.of po fun r e1 y H1 H' s rr po => ?_⟩
  obtain ⟨d, e2, H2, as2, ql, s2, rp2, hd, po⟩ := PoS.leak po rr
  cases q0 : F.slot e2 i with
  | none =>
    rw [q0] at po
    exact po.elim
  | some o =>
    rw [q0] at po
    obtain ⟨w, hw, _⟩ := rp2.own i _ q0
    refine ⟨w, hw, e2, H2, Fr, as2, rp2, PoS.of po fun q e3 z H3 H'' s3 rr3 po => ?_⟩
    obtain ⟨j, q1, po⟩ := PoS.ofOS po
    obtain ⟨H4, as4, s4, rp4, hj⟩ := RpR.peek rr3 q1
    split at po
    · rename_i l j' q
      split at po
      · rename_i n qn
        obtain ⟨hl, p, vs, rfl, h3, h4, h5⟩ := rp4.lst q hw
        refine ⟨p, vs, j', n, rfl, hj, h3, by rw [h4.len]; exact qn, ?_⟩
        exact po σ H4 _ as4 s4 Prot.refl (h5 _ _ (by simpa using hl) (Dats.set (Dat.mono (s3.trans s4) _ _ hd) n h4))
      · exact po.elim
    · exact po.elim
/-- x op= e -/
def VIp (c : Cn) (r : TIp) (f : D → D → Option D) : Prop := ∀ (H0 H : Hp) (x y : V) (dx dy dz : D) (Q : VK), Same H0 H → f dx dy = some dz → Dat1 c H0 H dx x → Dat1 c H0 H dy y → Out c H0 H dz Q → r x y H Q
theorem ss_aug {x : Str} {pos' : Pos} {op : Operator} {r : TIp} {f : D → D → Option D} (hP : P i = false) (hN : X.N.Nodup) (hi : X.N[i]? = some x) (hx : Loc X.env.scope x) (he : SE X t W a ma) (ho : PIp X op r) (hr : VIp (cn X t) r f)
    (hf : X.fn x = true ∨ X.env.scope.names.lookup x = some .local := by first | exact .inl rfl | exact .inr rfl | assumption) : SS X t W P (.AugAssign (.Name x pos') op a pos) (sAug i f ma) := by
  refine PS.imp (ps_aug hN hi hx he ho hf) fun D σ H ⟨e, H0, Fr, as, rp, po⟩ => ?_
  have po : PoS t (cn X t) W P Fr σ H0 D (match F.slot e i with
    | some _ => sOf (ma e) fun r e1 => ofOS (peek (.sl i) e1) fun x => ofOS (peek r e1) fun y => ofOS (f x y) fun z => .nx (e1.set i (some (.sh z)))
    | none => .bad) := po
  cases q0 : F.slot e i with
  | none =>
    rw [q0] at po
    exact po.elim
  | some o =>
    rw [q0] at po
    obtain ⟨w, hw, _⟩ := rp.own i _ q0
    refine ⟨w, hw, e, H0, Fr, as, rp, PoS.of po fun q e1 y H1 H' s rr po => ?_⟩
    obtain ⟨dx, q1, po⟩ := PoS.ofOS po
    obtain ⟨dy, q2, po⟩ := PoS.ofOS po
    obtain ⟨dz, q3, po⟩ := PoS.ofOS po
    obtain ⟨H2, as2, s2, rp2, hy⟩ := RpR.peek rr q2
    refine hr H2 H' w y dx dy dz _ rp2.sub q3 (Kp.peek (r := .sl i) rp2 hw q1) hy ⟨fun z hz => ?_, fun p o hp hd => ?_⟩
    · exact po _ H2 H' _ s2 (Prot.set hP) (rp2.setSh hz)
    · exact po _ _ _ _ (s2.trans (rp2.alloc (x := o) hp).1) (Prot.set hP) ((rp2.alloc hp).2.setSh hd)
end
/-! ### several answers, new things left as they are -/
section
variable {c : Cn} {H0 Fr H : Hp} {σ : St} {e : Env}
def RpO (c : Cn) (H0 Fr H : Hp) (σ : St) (e : Env) (vs : List V) (os : List O) : Prop := ∃ bs as, OwnRs c H0 H os vs bs ∧ bs.Nodup ∧ (∀ a ∈ bs, H0 a = none ∧ Fr a = none) ∧ Rp c H0 (addF Fr H bs) H σ e as
def rrOs (c : Cn) : Hp → St → Hp → Hp → Env → List V → List O → Prop := fun Fr σ H1 H' e vs os => RpO c H1 Fr H' σ e vs os
/-- the first goes to a name -/
theorem RpO.set {v : V} {vs : List V} {o : O} {os : List O} {i : Nat} (r : RpO c H0 Fr H σ e (v :: vs) (o :: os)) : RpO c H0 Fr H (σ.set i (some v)) (e.set i (some o)) vs os := by
  obtain ⟨bs, as, ⟨v', r', b1, b2, e1, e2, h1, h2⟩, nd, off, rp⟩ := r
  cases e1
  subst e2
  have hd : ∀ a ∈ b1, a ∉ b2 := fun a ha hb => by
    have := (List.nodup_append.mp nd).2.2 a ha a hb
    exact this rfl
  have r1 : Rp1 c H0 (addF Fr H b2) H σ e v o := by
    refine ⟨b1, as, h1, (List.nodup_append.mp nd).1, fun a ha => ⟨(off a (List.mem_append_left _ ha)).1, ?_⟩, ?_⟩
    · rw [addF_out (hd a ha)]
      exact (off a (List.mem_append_left _ ha)).2
    · have : addF (addF Fr H b2) H b1 = addF Fr H (b1 ++ b2) := by
        funext a
        by_cases z1 : a ∈ b1
        · rw [addF_in z1, addF_in (List.mem_append_left _ z1)]
        · rw [addF_out z1]
          by_cases z2 : a ∈ b2
          · rw [addF_in z2, addF_in (List.mem_append_right _ z2)]
          · rw [addF_out z2, addF_out (by simp [z1, z2])]
      rw [this]
      exact rp
  obtain ⟨as2, rp2⟩ := r1.set (i := i)
  exact ⟨b2, as2, h2, (List.nodup_append.mp nd).2.1, fun a ha => off a (List.mem_append_right _ ha), rp2⟩
end
section
variable {X : Cx} {t : Tb} {W : WX} {P : Nat → Bool} {a b : Expr} {es : List Expr} {ma mb : M R} {ms : List (M R)} {pos : Pos}
abbrev SO (X : Cx) (t : Tb) (W : WX) (es : List Expr) (m : M (List O)) : Prop := PA X es (tG t (cn X t) W (rrOs (cn X t)) m)
theorem so_nil : SO X t W [] (mOs []) := by
  refine PA.imp pa_nil fun σ H Q ⟨e, H0, Fr, as, rp, po⟩ => ?_
  exact po [] H0 H (Same.refl _) ⟨[], as, ⟨rfl, rfl⟩, List.nodup_nil, by simp, by rw [addF_nil]; exact rp⟩
/-- one more ahead -/
theorem rpO_cons {c : Cn} {H0 H1 Fr H H' : Hp} {σ : St} {e1 : Env} {v : V} {o : O} {vs : List V} {os : List O} {b1 : List Addr} (h1 : OwnR c H0 H o v b1) (nd : b1.Nodup) (off : ∀ a ∈ b1, H0 a = none ∧ Fr a = none) (s : Same H0 H1)
    (r : RpO c H1 (addF Fr H b1) H' σ e1 vs os) : RpO c H1 Fr H' σ e1 (v :: vs) (o :: os) := by
  obtain ⟨b2, as, h2, nd2, off2, rp⟩ := r
  have here : ∀ a ∈ b1, ∃ x, H a = some x := OwnR.here o v b1 h1
  have hd : ∀ a ∈ b1, a ∉ b2 := fun a ha hb => by
    have := (off2 a hb).2
    rw [addF_in ha] at this
    obtain ⟨x, hx⟩ := here a ha
    rw [hx] at this
    cases this
  have keep : ∀ a ∈ b1, H' a = H a ∧ H1 a = none := fun a ha => by
    obtain ⟨x, hx⟩ := here a ha
    have := rp.fr a x (by rw [addF_out (hd a ha), addF_in ha]; exact hx)
    exact ⟨this.1.trans hx.symm, this.2⟩
  refine ⟨b1 ++ b2, as, ⟨v, vs, b1, b2, rfl, rfl, OwnR.mono s o v b1 (fun a ha => (keep a ha).1) h1, h2⟩, ?_, fun a ha => ?_, ?_⟩
  · exact List.nodup_append.mpr ⟨nd, nd2, fun a ha b hb z => hd a ha (z ▸ hb)⟩
  · rcases List.mem_append.mp ha with ha | ha
    · exact ⟨(keep a ha).2, (off a ha).2⟩
    · have := (off2 a ha).2
      rw [addF_out fun z => hd a z ha] at this
      exact ⟨(off2 a ha).1, this⟩
  · have : addF Fr H' (b1 ++ b2) = addF (addF Fr H b1) H' b2 := by
      funext a
      by_cases z2 : a ∈ b2
      · rw [addF_in z2, addF_in (List.mem_append_right _ z2)]
      · rw [addF_out z2]
        by_cases z1 : a ∈ b1
        · rw [addF_in z1, addF_in (List.mem_append_left _ z1)]
          exact (keep a z1).1
        · rw [addF_out z1, addF_out (by simp [z1, z2])]
    rw [this]
    exact rp
theorem so_cons (ha : SE X t W a ma) (hr : SO X t W es (mOs ms)) (hs : starEach (a :: es) X.env = (false, eval a X.env) :: starEach es X.env := by rfl) : SO X t W (a :: es) (mOs (ma :: ms)) := by
  refine PA.imp (pa_cons ha hr hs) fun σ H Q ⟨e, H0, Fr, as, rp, po⟩ => ?_
  have po : Po t (cn X t) W Fr σ H0 (rrOs (cn X t) Fr σ) Q (andThen (ma e) fun r e1 => match r with
    | .ow o => andThen (mOs ms e1) fun os e2 => .ok (o :: os) e2
    | r => andThen (leak r e1) fun d e2 => andThen (mOs ms e2) fun os e3 => .ok (.sh d :: os) e3) := po
  refine ⟨e, H0, Fr, as, rp, po.bind fun ra e1 v H1 H' s rr po => ?_⟩
  have sh : ∀ {r : R}, RpR (cn X t) H1 Fr H' σ e1 v r → Po t (cn X t) W Fr σ H1 (rrOs (cn X t) Fr σ) Q (andThen (leak r e1) fun d e2 => andThen (mOs ms e2) fun os e3 => .ok (.sh d :: os) e3) →
      tG t (cn X t) W (rrOs (cn X t)) (mOs ms) σ H' fun xs H2 => Q (v :: xs) H2 := fun {r} rr po => by
    obtain ⟨d, e2, H2, as2, ql, s2, rp2, hd, po⟩ := po.leak rr
    refine ⟨e2, H2, Fr, as2, rp2, po.bind fun os e3 vs H3 H'' s3 ro po => ?_⟩
    refine po (v :: vs) H3 H'' (Same.refl _) ?_
    exact rpO_cons (H := H') (b1 := []) ⟨rfl, hd⟩ List.nodup_nil (by simp) s3 (by rw [addF_nil]; exact ro)
  cases ra with
  | d x => exact sh rr po
  | sl i => exact sh rr po
  | ow o =>
    have po : Po t (cn X t) W Fr σ H1 (rrOs (cn X t) Fr σ) Q (andThen (mOs ms e1) fun os e2 => .ok (o :: os) e2) := po
    obtain ⟨b1, as2, h1, nd, off, rp2⟩ := rr
    refine ⟨e1, H1, addF Fr H' b1, as2, rp2, ?_⟩
    cases q : mOs ms e1 with
    | bad =>
      rw [q] at po
      exact po
    | ex k p e2 =>
      rw [q] at po
      exact fun H2 H'' as3 cls dx s3 rp3 xa => po H2 H'' as3 cls dx s3 (rp3.less fun b x hb => by
        rw [addF_out fun z => by
          rw [(off b z).2] at hb
          cases hb]
        exact hb) xa
    | ok os e2 =>
      rw [q] at po
      exact fun vs H2 H'' s3 ro => po (v :: vs) H2 H'' s3 (rpO_cons h1 nd off s3 ro)
theorem ss_par {i j : Nat} {x y : Str} {px py pt : Pos} {kt k2 : Nat} {pt2 : Pos} (hPi : P i = false) (hPj : P j = false) (hc : X.calm = true) (hN : X.N.Nodup) (hi : X.N[i]? = some x) (hj : X.N[j]? = some y) (hij : i ≠ j)
    (hx : X.env.scope.names.lookup x = some .local) (hy : X.env.scope.names.lookup y = some .local) (ha : SO X t W [a, b] (mOs [ma, mb]))
    (hw : swappedStores [.Tuple [.Name x px, .Name y py] kt pt] (.Tuple [a, b] k2 pt2) X.env = pure (some [x, y]))
    (hs : swapsWithSole [.Tuple [.Name x px, .Name y py] kt pt] (.Tuple [a, b] k2 pt2) pos.line X.env = pure false := by rfl) :
    SS X t W P (.Assign [.Tuple [.Name x px, .Name y py] kt pt] (.Tuple [a, b] k2 pt2) pos) (sPar [i, j] [ma, mb]) := by
  refine PS.imp (ps_par hc hN hi hj hij hx hy ha hw hs) fun D σ H ⟨e, H0, Fr, as, rp, po⟩ => ?_
  refine ⟨e, H0, Fr, as, rp, PoS.of po fun os e1 vs H1 H' s ro po => ?_⟩
  obtain ⟨e2, q, po⟩ := PoS.ofOS po
  match os, vs, ro, q with
  | [o1, o2], [v1, v2], ro, q =>
    cases q
    have r1 := RpO.set (i := i) ro
    have r2 := RpO.set (i := j) r1
    obtain ⟨bs, as3, ⟨_, hb⟩, _, _, rp3⟩ := r2
    subst hb
    rw [addF_nil] at rp3
    exact ⟨v1, v2, rfl, po _ H1 H' as3 (Same.refl _) ((Prot.set hPi).trans (Prot.set hPj)) rp3⟩
  | [], _, _, q => cases q
  | [_], _, _, q => cases q
  | _ :: _ :: _ :: _, _, _, q => cases q
  | [o1, o2], [], ro, q =>
    obtain ⟨_, _, ⟨_, _, _, _, h, _⟩, _⟩ := ro
    cases h
  | [o1, o2], [_], ro, q =>
    obtain ⟨_, _, ⟨_, _, _, _, h, _, _, ⟨_, _, _, _, h2, _⟩⟩, _⟩ := ro
    cases h
    cases h2
  | [o1, o2], _ :: _ :: _ :: _, ro, q =>
    obtain ⟨_, _, ⟨_, _, _, _, h, _, _, ⟨_, _, _, _, h2, _, _, ⟨h3, _⟩⟩⟩, _⟩ := ro
    cases h
    cases h2
    cases h3
/-! ### built-ins by values -/
def Dats1 (c : Cn) (H0 H : Hp) : List D → List V → Prop
  | [], vs => vs = []
  | d :: ds, vs => ∃ v r, vs = v :: r ∧ Dat1 c H0 H d v ∧ Dats1 c H0 H ds r
theorem Kps.peeks {c : Cn} {H0 Fr H : Hp} {σ : St} {e : Env} {as : Nat → List Addr} (rp : Rp c H0 Fr H σ e as) : ∀ {vs : List V} {rs : List R} {ds : List D}, Kps c H0 σ vs rs → peeks rs e = some ds → Dats1 c H0 H ds vs
  | [], rs, ds, h, q => by
    have h : rs = [] := h
    subst h
    cases q
    rfl
  | v :: vs, rs, ds, ⟨r, qs, h1, h2, h3⟩, q => by
    subst h1
    have q : (match peek r e, F.peeks qs e with
      | some x, some xs => some (x :: xs)
      | _, _ => none) = some ds := q
    cases q1 : peek r e with
    | none =>
      rw [q1] at q
      cases q
    | some x =>
      cases q2 : F.peeks qs e with
      | none =>
        rw [q1, q2] at q
        cases q
      | some xs =>
        rw [q1, q2] at q
        cases q
        exact ⟨v, vs, rfl, h2.peek rp q1, Kps.peeks rp h3 q2⟩
def CB (c : Cn) (r : List V → Hp → VK → Prop) (f : List D → Option D) : Prop := ∀ (H0 H : Hp) (xs : List V) (ds : List D) (dz : D) (Q : VK), Same H0 H → f ds = some dz → Dats1 c H0 H ds xs → Out c H0 H dz Q → r xs H Q
def CBl (c : Cn) (r : List V → Hp → VK → Prop) (f : List D → Option (List D)) : Prop := ∀ (H0 H : Hp) (xs : List V) (ds : List D) (l : List D) (Q : VK), Same H0 H → f ds = some l → Dats1 c H0 H ds xs → NewL c H0 H l Q → r xs H Q
theorem tI_bi {c : Cn} {r : List V → Hp → VK → Prop} {f : List D → Option D} (h : CB c r f) {σ : St} {H : Hp} {Q : VK} (q : tG t c W (rrR c) (mBi f ms) σ H Q) : tCB r (tG t c W (rrRs c) (mRs ms)) σ H Q := by
  obtain ⟨e, H0, Fr, as, rp, po⟩ := q
  refine ⟨e, H0, Fr, as, rp, po.bind fun rs e1 vs H1 H' s ⟨⟨as1, rp1⟩, ks⟩ po => ?_⟩
  obtain ⟨ds, q1, po⟩ := po.ofO
  obtain ⟨dz, q2, po⟩ := po.ofO
  exact h H1 H' vs ds dz Q rp1.sub q2 (ks.peeks rp1 q1) (po.out rp1)
theorem tI_bl {c : Cn} {r : List V → Hp → VK → Prop} {f : List D → Option (List D)} (h : CBl c r f) {σ : St} {H : Hp} {Q : VK} (q : tG t c W (rrR c) (mBl f ms) σ H Q) : tCB r (tG t c W (rrRs c) (mRs ms)) σ H Q := by
  obtain ⟨e, H0, Fr, as, rp, po⟩ := q
  refine ⟨e, H0, Fr, as, rp, po.bind fun rs e1 vs H1 H' s ⟨⟨as1, rp1⟩, ks⟩ po => ?_⟩
  obtain ⟨ds, q1, po⟩ := po.ofO
  obtain ⟨dz, q2, po⟩ := po.ofO
  exact h H1 H' vs ds dz Q rp1.sub q2 (ks.peeks rp1 q1) (po.newL rp1)
end
end F
end

section
set_option Elab.async false
set_option linter.all false
set_option autoImplicit false
set_option maxRecDepth 100000
/-! F layer, part G: operations. -/
namespace F
open PySem PySem.Spec PyProof.Rows L2
section
variable {c : Cn}
theorem Out.of {H0 H : Hp} {d : D} {Q : VK} (h : Out c H0 H d Q) {z : V} (hz : Dat c H0 d z) : Q z H := h.1 z hz
theorem Out.int {H0 H : Hp} {i : Int} {Q : VK} (h : Out c H0 H (.int i) Q) : Q (.int i) H := h.1 _ rfl
theorem Out.bl {H0 H : Hp} {b : Bool} {Q : VK} (h : Out c H0 H (.bl b) Q) : Q (.bl b) H := h.1 _ rfl
theorem Out.str {H0 H : Hp} {x : List Nat} {Q : VK} (h : Out c H0 H (.str x) Q) (hl : x.length ≤ lim) : Q (.str (sS x)) H := h.1 _ ⟨rfl, hl⟩
theorem sS_len (x : List Nat) : (sS x).length = x.length := by simp [sS, Str.length]
theorem sS_app (x y : List Nat) : sS x ++ sS y = sS (x ++ y) := by
  show (⟨(sS x).cps ++ (sS y).cps⟩ : Str) = _
  simp [sS]
theorem sS_tl (x : List Nat) : (sS x).cps.toList = x := by simp [sS]
theorem sS_inj {x y : List Nat} : sS x = sS y ↔ x = y := by
  constructor
  · intro h
    have := congrArg (fun z : Str => z.cps.toList) h
    simpa [sS] using this
  · intro h; rw [h]
def rAddV : R2 := fun x y H Q => (rI0 (fun i j => .int (i + j)) x y H Q) ∨ (∃ i j, x = .str i ∧ y = .str j ∧ i.length + j.length ≤ sizeLine ∧ Q (.str (i ++ j)) H)
theorem op_addV {X : Cx} : OpR X (binaryOp .Add) rAddV := OpR.or op_add op_add_str
theorem v_add : VOp2 c rAddV addD := by
  intro H0 H x y dx dy dz Q s e hx hy o
  cases dx <;> cases dy <;> try cases e
  · cases hx
    cases hy
    exact .inl ⟨_, _, rfl, rfl, o.int⟩
  · rename_i a b
    obtain ⟨rfl, h1⟩ := hx
    obtain ⟨rfl, h2⟩ := hy
    have e : (if a.length + b.length ≤ lim then some (D.str (a ++ b)) else none) = some dz := e
    by_cases hl : a.length + b.length ≤ lim
    · rw [if_pos hl] at e
      cases e
      refine .inr ⟨_, _, rfl, rfl, by rw [sS_len, sS_len, sizeLine_lim]; exact hl, ?_⟩
      rw [sS_app]
      exact o.str (by simpa using hl)
    · rw [if_neg hl] at e
      cases e
theorem v_sub : VOp2 c (rI0 fun i j => .int (i - j)) subD := by
  intro H0 H x y dx dy dz Q s e hx hy o
  cases dx <;> cases dy <;> try cases e
  cases hx
  cases hy
  exact ⟨_, _, rfl, rfl, o.int⟩
theorem v_mul : VOp2 c (rI CMul fun i j => .int (i * j)) mulD := by
  intro H0 H x y dx dy dz Q s e hx hy o
  cases dx <;> cases dy <;> try cases e
  rename_i i j
  cases hx
  cases hy
  have e : (if mulOk i j = true then some (D.int (i * j)) else none) = some dz := e
  by_cases hm : mulOk i j = true
  · rw [if_pos hm] at e
    cases e
    refine ⟨_, _, rfl, rfl, ?_, o.int⟩
    unfold mulOk at hm
    simp only [Bool.or_eq_true, Bool.and_eq_true, decide_eq_true_eq] at hm
    unfold CMul
    omega
  · rw [if_neg hm] at e
    cases e
theorem v_div : VOp2 c (rI CDiv fun i j => .int (i / j)) divD := by
  intro H0 H x y dx dy dz Q s e hx hy o
  cases dx <;> cases dy <;> try cases e
  rename_i i j
  cases hx
  cases hy
  have e : (if 0 < j ∧ j < 1073741824 then some (D.int (i / j)) else none) = some dz := e
  by_cases hm : 0 < j ∧ j < 1073741824
  · rw [if_pos hm] at e
    cases e
    exact ⟨_, _, rfl, rfl, hm, o.int⟩
  · rw [if_neg hm] at e
    cases e
theorem v_mod : VOp2 c (rI (fun _ j => 0 < j) fun i j => .int (i % j)) modD := by
  intro H0 H x y dx dy dz Q s e hx hy o
  cases dx <;> cases dy <;> try cases e
  rename_i i j
  cases hx
  cases hy
  have e : (if 0 < j then some (D.int (i % j)) else none) = some dz := e
  by_cases hm : 0 < j
  · rw [if_pos hm] at e
    cases e
    exact ⟨_, _, rfl, rfl, hm, o.int⟩
  · rw [if_neg hm] at e
    cases e
theorem v_pow : VOp2 c (rI CPow fun i j => .int (i ^ j.toNat)) powD := by
  intro H0 H x y dx dy dz Q s e hx hy o
  cases dx <;> cases dy <;> try cases e
  rename_i i j
  cases hx
  cases hy
  have e : (if 0 ≤ j ∧ j ≤ 1000000 ∧ i.natAbs < 18446744073709551616 then some (D.int (i ^ j.toNat)) else none) = some dz := e
  by_cases hm : 0 ≤ j ∧ j ≤ 1000000 ∧ i.natAbs < 18446744073709551616
  · rw [if_pos hm] at e
    cases e
    exact ⟨_, _, rfl, rfl, ⟨hm.1, hm.2.1, by have := hm.2.2; omega⟩, o.int⟩
  · rw [if_neg hm] at e
    cases e
theorem v_neg : VOp1 c (rU fun i => .int (-i)) negD := by
  intro H0 H x dx dz Q s e hx o
  cases dx <;> try cases e
  cases hx
  exact ⟨_, rfl, o.int⟩
theorem ip_addV : VIp c (ipI fun i j => i + j) addI := by
  intro H0 H x y dx dy dz Q s e hx hy o
  cases dx <;> cases dy <;> try cases e
  cases hx
  cases hy
  exact ⟨_, _, rfl, rfl, o.int⟩
/-! ### order -/
def rLtV : R2 := fun x y H Q => (rI0 (fun i j => .bl (decide (i < j))) x y H Q) ∨ (∃ i j, x = .str i ∧ y = .str j ∧ Q (.bl (decide (i.cps.toList < j.cps.toList))) H)
theorem op_ltV {X : Cx} : OpR X (compareOp .Lt) rLtV := OpR.or op_lt op_lt_str
theorem v_lt : VOp2 c rLtV ltD := by
  intro H0 H x y dx dy dz Q s e hx hy o
  cases dx <;> cases dy <;> try cases e
  · cases hx
    cases hy
    exact .inl ⟨_, _, rfl, rfl, o.bl⟩
  · obtain ⟨rfl, h1⟩ := hx
    obtain ⟨rfl, h2⟩ := hy
    exact .inr ⟨_, _, rfl, rfl, by rw [sS_tl, sS_tl]; exact o.bl⟩
def rGtV : R2 := fun x y H Q => (rI0 (fun i j => .bl (decide (j < i))) x y H Q) ∨ (∃ i j, x = .str i ∧ y = .str j ∧ Q (.bl (decide (j.cps.toList < i.cps.toList))) H)
theorem op_gtV {X : Cx} : OpR X (compareOp .Gt) rGtV := OpR.or op_gt op_gt_str
theorem v_gt : VOp2 c rGtV gtD := by
  intro H0 H x y dx dy dz Q s e hx hy o
  cases dx <;> cases dy <;> try cases e
  · cases hx
    cases hy
    exact .inl ⟨_, _, rfl, rfl, o.bl⟩
  · obtain ⟨rfl, h1⟩ := hx
    obtain ⟨rfl, h2⟩ := hy
    exact .inr ⟨_, _, rfl, rfl, by rw [sS_tl, sS_tl]; exact o.bl⟩
theorem v_ge : VOp2 c (rI0 fun i j => .bl (decide (j ≤ i))) geD := by
  intro H0 H x y dx dy dz Q s e hx hy o
  cases dx <;> cases dy <;> try cases e
  cases hx
  cases hy
  exact ⟨_, _, rfl, rfl, o.bl⟩
/-! ### is None -/
theorem isN_of {H0 H : Hp} {d : D} {v : V} (h : Dat1 c H0 H d v) : decide (v = .non) = isNone d := by
  cases d with
  | non => cases h; rfl
  | bl b => cases h; rfl
  | int i => cases h; rfl
  | str x => obtain ⟨rfl, _⟩ := h; rfl
  | tup l => obtain ⟨_, a, vs, rfl, _⟩ := h; rfl
  | lst l => obtain ⟨_, a, vs, rfl, _⟩ := h; rfl
  | dct l => obtain ⟨_, a, vs, rfl, _⟩ := h; rfl
  | obj k l => obtain ⟨a, dx, fs, rfl, _⟩ := h; rfl
  | ex k d => obtain ⟨a, rfl⟩ := c.exR _ _ _ _ h; rfl
theorem v_isN : VOp2 c (fun x y H Q => y = .non ∧ Q (.bl (decide (x = .non))) H) isD := by
  intro H0 H x y dx dy dz Q s e hx hy o
  cases dy <;> try cases e
  cases hy
  exact ⟨rfl, by rw [isN_of hx]; exact o.bl⟩
theorem v_notN : VOp2 c (fun x y H Q => y = .non ∧ Q (.bl (!decide (x = .non))) H) isntD := by
  intro H0 H x y dx dy dz Q s e hx hy o
  cases dy <;> try cases e
  cases hy
  exact ⟨rfl, by rw [isN_of hx]; exact o.bl⟩
/-! ### equality of plain data -/
mutual
def toP : D → PyData
  | .non => .none
  | .bl b => .bool b
  | .int i => .int i
  | .str x => .str (sS x)
  | .tup l => .tuple (toPs l)
  | .lst l => .list (toPs l)
  | .dct _ => .none
  | .obj _ _ => .none
  | .ex _ _ => .none
def toPs : List D → List PyData
  | [] => []
  | d :: ds => toP d :: toPs ds
end
mutual
theorem toP_plain : ∀ d : D, (toP d).plain = true
  | .non | .bl _ | .int _ | .str _ | .dct _ | .obj _ _ | .ex _ _ => rfl
  | .tup l => toPs_plain l
  | .lst l => toPs_plain l
theorem toPs_plain : ∀ l : List D, PyData.plainAll (toPs l) = true
  | [] => rfl
  | d :: ds => by
    show ((toP d).plain && PyData.plainAll (toPs ds)) = true
    rw [toP_plain d, toPs_plain ds]
    rfl
end
mutual
theorem toP_depth : ∀ d : D, (toP d).depth = d.dp
  | .non | .bl _ | .int _ | .str _ | .dct _ | .obj _ _ | .ex _ _ => rfl
  | .tup l => by
    show PyData.depthAll (toPs l) + 1 = dps l + 1
    rw [toPs_depth l]
  | .lst l => by
    show PyData.depthAll (toPs l) + 1 = dps l + 1
    rw [toPs_depth l]
theorem toPs_depth : ∀ l : List D, PyData.depthAll (toPs l) = dps l
  | [] => rfl
  | d :: ds => by
    show max (toP d).depth (PyData.depthAll (toPs ds)) = max d.dp (dps ds)
    rw [toP_depth d, toPs_depth ds]
end
mutual
theorem eqB_eqv : ∀ a b : D, a.pl = true → b.pl = true → PyData.eqv (toP a) (toP b) = eqB a b
  | a, .dct _, _, h => by cases h
  | a, .obj _ _, _, h => by cases h
  | a, .ex _ _, _, h => by cases h
  | .dct _, _, h, _ => by cases h
  | .obj _ _, _, h, _ => by cases h
  | .ex _ _, _, h, _ => by cases h
  | .non, .non, _, _ => rfl
  | .non, .bl _, _, _ => rfl
  | .non, .int _, _, _ => rfl
  | .non, .str _, _, _ => rfl
  | .non, .tup _, _, _ => rfl
  | .non, .lst _, _, _ => rfl
  | .bl _, .non, _, _ => rfl
  | .bl _, .bl _, _, _ => rfl
  | .bl _, .int _, _, _ => rfl
  | .bl _, .str _, _, _ => rfl
  | .bl _, .tup _, _, _ => rfl
  | .bl _, .lst _, _, _ => rfl
  | .int _, .non, _, _ => rfl
  | .int _, .bl _, _, _ => rfl
  | .int _, .int _, _, _ => rfl
  | .int _, .str _, _, _ => rfl
  | .int _, .tup _, _, _ => rfl
  | .int _, .lst _, _, _ => rfl
  | .str _, .non, _, _ => rfl
  | .str _, .bl _, _, _ => rfl
  | .str _, .int _, _, _ => rfl
  | .str x, .str y, _, _ => by
    show (sS x == sS y) = (x == y)
    by_cases h : x = y
    · subst h; simp
    · rw [beq_eq_false_iff_ne.mpr h, beq_eq_false_iff_ne.mpr fun z => h (sS_inj.mp z)]
  | .str _, .tup _, _, _ => rfl
  | .str _, .lst _, _, _ => rfl
  | .tup _, .non, _, _ => rfl
  | .tup _, .bl _, _, _ => rfl
  | .tup _, .int _, _, _ => rfl
  | .tup _, .str _, _, _ => rfl
  | .tup _, .lst _, _, _ => rfl
  | .tup l, .tup m, h, g => eqBs_eqv l m h g
  | .lst _, .non, _, _ => rfl
  | .lst _, .bl _, _, _ => rfl
  | .lst _, .int _, _, _ => rfl
  | .lst _, .str _, _, _ => rfl
  | .lst _, .tup _, _, _ => rfl
  | .lst l, .lst m, h, g => eqBs_eqv l m h g
theorem eqBs_eqv : ∀ l m : List D, pls l = true → pls m = true → PyData.eqvAll (toPs l) (toPs m) = eqBs l m
  | [], [], _, _ => rfl
  | [], _ :: _, _, _ => rfl
  | _ :: _, [], _, _ => rfl
  | a :: l, b :: m, h, g => by
    have h : (a.pl && pls l) = true := h
    have g : (b.pl && pls m) = true := g
    rw [Bool.and_eq_true] at h g
    show (PyData.eqv (toP a) (toP b) && PyData.eqvAll (toPs l) (toPs m)) = (eqB a b && eqBs l m)
    rw [eqB_eqv a b h.1 g.1, eqBs_eqv l m h.2 g.2]
end
mutual
theorem Dat.dp {H : Hp} : ∀ (d : D) (v : V), d.pl = true → Dat c H d v → Dp c.K H v (toP d)
  | .non, _, _, h => by cases h; exact .non
  | .bl _, _, _, h => by cases h; exact .bl _
  | .int _, _, _, h => by cases h; exact .int _
  | .str _, _, _, ⟨h, _⟩ => by cases h; exact .str _
  | .tup l, _, p, ⟨_, a, vs, h1, h2, h3⟩ => by cases h1; exact .tup h2 (Dats.dp l vs p h3)
  | .lst l, _, p, ⟨_, a, vs, h1, h2, h3⟩ => by cases h1; exact .lst h2 (Dats.dp l vs p h3)
  | .dct _, _, p, _ => by cases p
  | .obj _ _, _, p, _ => by cases p
  | .ex _ _, _, p, _ => by cases p
theorem Dats.dp {H : Hp} : ∀ (l : List D) (vs : List V), pls l = true → Dats c H l vs → DpAll c.K H vs (toPs l)
  | [], _, _, h => by
    have h : _ = _ := h
    subst h
    exact .nil
  | d :: ds, _, p, ⟨v, r, h1, h2, h3⟩ => by
    have p : (d.pl && pls ds) = true := p
    rw [Bool.and_eq_true] at p
    subst h1
    exact .cons (Dat.dp d v p.1 h2) (Dats.dp ds r p.2 h3)
end
def rEqP (K : PySem.W.Frag) : R2 := fun x y H Q => ∃ d e, Dp K H x d ∧ Dp K H y e ∧ d.plain = true ∧ e.plain = true ∧ min d.depth e.depth ≤ 50 ∧ Q (.bl (PyData.eqv d e)) H
def rNeP (K : PySem.W.Frag) : R2 := fun x y H Q => ∃ d e, Dp K H x d ∧ Dp K H y e ∧ d.plain = true ∧ e.plain = true ∧ min d.depth e.depth ≤ 50 ∧ Q (.bl (!PyData.eqv d e)) H
theorem op_eqP {X : Cx} (hu : X.A.units + 64 < cLine) : OpR X (compareOp .Eq) (rEqP X.K) := by
  intro pins s σ H x y v u Q I rx ry ⟨d, e, hd, he, pd, pe, hm, q⟩
  obtain ⟨as, r1⟩ := Dp.reads I d x v hd rx
  obtain ⟨bs, r2⟩ := Dp.reads I e y u he ry
  exact SeqAt.eq_plain r1 r2 pd pe (by omega) ⟨.bl _, H, I, rfl, q⟩
theorem op_neP {X : Cx} (hu : X.A.units + 64 < cLine) : OpR X (compareOp .NotEq) (rNeP X.K) := by
  intro pins s σ H x y v u Q I rx ry ⟨d, e, hd, he, pd, pe, hm, q⟩
  obtain ⟨as, r1⟩ := Dp.reads I d x v hd rx
  obtain ⟨bs, r2⟩ := Dp.reads I e y u he ry
  exact SeqAt.ne_plain r1 r2 pd pe (by omega) ⟨.bl _, H, I, rfl, q⟩
theorem cmpOk_of {a b : D} (h : cmpOk a b = true) : a.pl = true ∧ b.pl = true ∧ min (toP a).depth (toP b).depth ≤ 50 := by
  unfold cmpOk at h
  simp only [Bool.and_eq_true, Bool.or_eq_true, decide_eq_true_eq] at h
  obtain ⟨⟨h1, h2⟩, h3⟩ := h
  rw [toP_depth, toP_depth]
  exact ⟨h1, h2, by omega⟩
theorem v_eq : VOp2 c (rEqP c.K) eqD := by
  intro H0 H x y dx dy dz Q s e hx hy o
  unfold eqD at e
  split at e
  · rename_i h
    cases e
    obtain ⟨h1, h2, h3⟩ := cmpOk_of h
    exact ⟨_, _, Dat.dp _ _ h1 (hx.dat s), Dat.dp _ _ h2 (hy.dat s), toP_plain _, toP_plain _, h3, by rw [eqB_eqv _ _ h1 h2]; exact o.bl⟩
  · cases e
theorem v_ne : VOp2 c (rNeP c.K) neD := by
  intro H0 H x y dx dy dz Q s e hx hy o
  unfold neD at e
  split at e
  · rename_i h
    cases e
    obtain ⟨h1, h2, h3⟩ := cmpOk_of h
    exact ⟨_, _, Dat.dp _ _ h1 (hx.dat s), Dat.dp _ _ h2 (hy.dat s), toP_plain _, toP_plain _, h3, by rw [eqB_eqv _ _ h1 h2]; exact o.bl⟩
  · cases e
/-! ### in -/
def rInP (K : PySem.W.Frag) (neg : Bool) : R2 := fun x y H Q => ∃ p xs d ds, y = .ref p ∧ (SqL K H p xs ∨ SqT K H p xs) ∧ DpAll K H xs ds ∧ Dp K H x d ∧ PyData.plainAll ds = true ∧ d.plain = true ∧ d.depth ≤ 50 ∧ Q (.bl (if neg then !(ds.any fun y => PyData.eqv y d) else ds.any fun y => PyData.eqv y d)) H
theorem op_inP {X : Cx} (hu : X.A.units + 64 < cLine) : OpR X (compareOp .In) (rInP X.K false) := by
  intro pins s σ H x y v u Q I rx ry ⟨p, xs, d, ds, e, hs, hds, hd, pds, pd, hm, q⟩
  subst e
  obtain ⟨as, r1⟩ := Dp.reads I d x v hd rx
  rcases hs with hs | hs
  · obtain ⟨bs, r2⟩ := Dp.reads I (.list ds) _ u (.lst hs hds) ry
    exact SeqAt.in_list_data r2 r1 pds pd (by omega) ⟨.bl _, H, I, rfl, q⟩
  · obtain ⟨bs, r2⟩ := Dp.reads I (.tuple ds) _ u (.tup hs hds) ry
    exact SeqAt.in_tuple_data r2 r1 pds pd (by omega) ⟨.bl _, H, I, rfl, q⟩
theorem op_notInP {X : Cx} (hu : X.A.units + 64 < cLine) : OpR X (compareOp .NotIn) (rInP X.K true) := by
  intro pins s σ H x y v u Q I rx ry ⟨p, xs, d, ds, e, hs, hds, hd, pds, pd, hm, q⟩
  subst e
  obtain ⟨as, r1⟩ := Dp.reads I d x v hd rx
  rcases hs with hs | hs
  · obtain ⟨bs, r2⟩ := Dp.reads I (.list ds) _ u (.lst hs hds) ry
    exact SeqAt.notIn_list_data r2 r1 pds pd (by omega) ⟨.bl _, H, I, rfl, q⟩
  · obtain ⟨bs, r2⟩ := Dp.reads I (.tuple ds) _ u (.tup hs hds) ry
    exact SeqAt.notIn_tuple_data r2 r1 pds pd (by omega) ⟨.bl _, H, I, rfl, q⟩
theorem any_toP {x : D} (hx : x.pl = true) : ∀ {l : List D}, pls l = true → ((toPs l).any fun y => PyData.eqv y (toP x)) = l.any fun y => eqB y x
  | [], _ => rfl
  | d :: ds, h => by
    have h : (d.pl && pls ds) = true := h
    rw [Bool.and_eq_true] at h
    show (PyData.eqv (toP d) (toP x) || (toPs ds).any fun y => PyData.eqv y (toP x)) = (eqB d x || ds.any fun y => eqB y x)
    rw [eqB_eqv d x h.1 hx, any_toP hx h.2]
def rInV (K : PySem.W.Frag) (neg : Bool) : R2 := fun x y H Q => rInP K neg x y H Q ∨ ∃ (k : Nat) (z : Str), x = .str ⟨#[k]⟩ ∧ y = .str z ∧ Q (.bl (if neg then !decide (k ∈ z.cps.toList) else decide (k ∈ z.cps.toList))) H
theorem op_inV {X : Cx} (hu : X.A.units + 64 < cLine) : OpR X (compareOp .In) (rInV X.K false) := OpR.or (op_inP hu) op_in_sign
theorem op_notInV {X : Cx} (hu : X.A.units + 64 < cLine) : OpR X (compareOp .NotIn) (rInV X.K true) := OpR.or (op_notInP hu) op_notIn_sign
theorem v_inB {H0 H : Hp} {x y : V} {dx dy : D} {b neg : Bool} {Q : VK} (s : Same H0 H) (e : inB dx dy = some b) (hx : Dat1 c H0 H dx x) (hy : Dat1 c H0 H dy y) (q : Q (.bl (if neg then !b else b)) H) : rInV c.K neg x y H Q := by
  have seq : ∀ {l : List D}, (if dx.pl && pls l && decide (dx.dp ≤ 50) then some (l.any fun y => eqB y dx) else none) = some b → (∃ p vs, y = .ref p ∧ (SqL c.K H p vs ∨ SqT c.K H p vs) ∧ Dats c H0 l vs) → rInV c.K neg x y H Q := fun {l} e ⟨p, vs, h1, h2, h3⟩ => by
    split at e
    · rename_i h
      cases e
      simp only [Bool.and_eq_true, decide_eq_true_eq] at h
      obtain ⟨⟨g1, g2⟩, g3⟩ := h
      exact .inl ⟨p, vs, toP dx, toPs l, h1, h2, Dats.dp l vs g2 (Dats.mono s _ _ h3), Dat.dp dx x g1 (hx.dat s), toPs_plain l, toP_plain dx, by rw [toP_depth]; exact g3, by rw [any_toP g1 g2]; exact q⟩
    · cases e
  cases dy with
  | str z =>
    unfold inB at e
    split at e
    · rename_i k y' e1 e2
      cases e2
      cases e
      obtain ⟨rfl, _⟩ := hx
      obtain ⟨rfl, _⟩ := hy
      exact .inr ⟨_, sS z, rfl, rfl, by rw [sS_tl]; exact q⟩
    · rename_i e2; cases e2
    · rename_i e2; cases e2
    · cases e
  | lst l =>
    obtain ⟨_, p, vs, h1, h2, h3⟩ := hy
    refine seq (l := l) ?_ ⟨p, vs, h1, .inl h2, h3⟩
    unfold inB at e
    split at e
    · rename_i e2; cases e2
    · rename_i e2; cases e2; exact e
    · rename_i e2; cases e2
    · cases e
  | tup l =>
    obtain ⟨_, p, vs, h1, h2, h3⟩ := hy
    refine seq (l := l) ?_ ⟨p, vs, h1, .inr h2, h3⟩
    unfold inB at e
    split at e
    · rename_i e2; cases e2
    · rename_i e2; cases e2
    · rename_i e2; cases e2; exact e
    · cases e
  | _ =>
    unfold inB at e
    split at e
    · rename_i e2; cases e2
    · rename_i e2; cases e2
    · rename_i e2; cases e2
    · cases e
theorem v_in : VOp2 c (rInV c.K false) inD := by
  intro H0 H x y dx dy dz Q s e hx hy o
  unfold inD at e
  cases q : inB dx dy with
  | none =>
    rw [q] at e
    cases e
  | some b =>
    rw [q] at e
    cases e
    exact v_inB s q hx hy o.bl
theorem v_notIn : VOp2 c (rInV c.K true) ninD := by
  intro H0 H x y dx dy dz Q s e hx hy o
  unfold ninD at e
  cases q : inB dx dy with
  | none =>
    rw [q] at e
    cases e
  | some b =>
    rw [q] at e
    cases e
    exact v_inB s q hx hy o.bl
/-! ### items -/
theorem atI_dats {H0 : Hp} {l : List D} {vs : List V} {i : Int} {d : D} (h : Dats c H0 l vs) (e : getI l i = some d) : ∃ v, atI vs i = some v ∧ Dat c H0 d v := by
  unfold getI at e
  unfold atI
  rw [h.len]
  cases q : ixI l.length i with
  | none =>
    rw [q] at e
    cases e
  | some j =>
    rw [q] at e
    have q2 : ixN l.length i = some j := q
    rw [q2]
    exact h.get (i := j) e
theorem v_ix : VOp2 c (rIx c.K) ixD := by
  intro H0 H x y dx dy dz Q s e hx hy o
  cases dx with
  | lst l =>
    cases dy with
    | int i =>
      obtain ⟨_, p, vs, rfl, h2, h3⟩ := hx
      cases hy
      obtain ⟨v, h4, h5⟩ := atI_dats h3 e
      exact .inl ⟨p, vs, i, v, rfl, rfl, h2, h4, o.of h5⟩
    | _ => cases e
  | tup l =>
    cases dy with
    | int i =>
      obtain ⟨_, p, vs, rfl, h2, h3⟩ := hx
      cases hy
      obtain ⟨v, h4, h5⟩ := atI_dats h3 e
      exact .inr (.inl ⟨p, vs, i, v, rfl, rfl, h2, h4, o.of h5⟩)
    | _ => cases e
  | str z =>
    cases dy with
    | int i =>
      obtain ⟨rfl, hl⟩ := hx
      cases hy
      have e : (getI z i).map (fun k => D.str [k]) = some dz := e
      cases q : getI z i with
      | none =>
        rw [q] at e
        cases e
      | some k =>
        rw [q] at e
        cases e
        refine .inr (.inr ⟨sS z, i, k, rfl, rfl, by rw [sS_len, sizeLine_lim]; exact hl, by rw [sS_tl]; exact q, ?_⟩)
        exact o.of (z := .str ⟨#[k]⟩) ⟨rfl, by simp [lim]⟩
    | _ => cases e
  | _ => cases dy <;> cases e
end
end F
end

section
set_option Elab.async false
set_option linter.all false
set_option autoImplicit false
set_option maxRecDepth 100000
/-! F layer, part H: defs, built-ins, methods, what is walked, match. -/
namespace F
open PySem PySem.Spec PyProof.Rows L2
/-! ### a def keeps its promise -/
theorem mergeO_eq : ∀ {os os' : List O}, os'.length = os.length → (mergeO os os').length = os.length
  | [], [], _ => rfl
  | [], _ :: _, h => by simp at h
  | o :: os, [], h => by simp at h
  | o :: os, o' :: os', h => by
    have := mergeO_eq (os := os) (os' := os') (by simpa using h)
    cases o <;> simp [mergeO, this]
theorem mergeO_get : ∀ {os os' : List O} {i : Nat} {o : O}, (mergeO os os')[i]? = some o → (∃ d, os[i]? = some (.sh d) ∧ o = .sh d) ∨ (os'[i]? = some o ∧ ∃ o1, os[i]? = some o1 ∧ ∀ d, o1 ≠ .sh d)
  | [], _, i, o, h => by simp [mergeO] at h
  | .sh d :: os, [], i, o, h => by simp [mergeO] at h
  | .fl _ :: os, [], i, o, h => by simp [mergeO] at h
  | .fd _ :: os, [], i, o, h => by simp [mergeO] at h
  | .fo _ _ :: os, [], i, o, h => by simp [mergeO] at h
  | o1 :: os, o2 :: os', 0, o, h => by
    cases o1 with
    | sh d =>
      simp [mergeO] at h
      exact .inl ⟨d, rfl, h.symm⟩
    | fl l =>
      simp [mergeO] at h
      exact .inr ⟨by simp [h], _, rfl, fun d z => by cases z⟩
    | fd l =>
      simp [mergeO] at h
      exact .inr ⟨by simp [h], _, rfl, fun d z => by cases z⟩
    | fo k l =>
      simp [mergeO] at h
      exact .inr ⟨by simp [h], _, rfl, fun d z => by cases z⟩
  | o1 :: os, o2 :: os', i + 1, o, h => by
    have : (mergeO os os')[i]? = some o := by
      cases o1 <;> simpa [mergeO] using h
    simpa using mergeO_get this
theorem endF_get {n : Nat} {e : Env} {os' : List O} (h : endF n e = some os') : os'.length = min n e.length ∧ ∀ (i : Nat) (o : O), os'[i]? = some o → slot e i = some o := by
  unfold endF at h
  have key : ∀ {l : List (Option O)} {os' : List O}, allO l = some os' → os'.length = l.length ∧ ∀ (i : Nat) (o : O), os'[i]? = some o → l[i]? = some (some o) := by
    intro l
    induction l with
    | nil =>
      intro os' h
      cases h
      simp
    | cons x l ih =>
      intro os' h
      cases x with
      | none => cases h
      | some a =>
        have h : (allO l).map (a :: ·) = some os' := h
        cases q : allO l with
        | none =>
          rw [q] at h
          cases h
        | some b =>
          rw [q] at h
          cases h
          obtain ⟨h1, h2⟩ := ih q
          refine ⟨by simp [h1], fun i o q => ?_⟩
          cases i with
          | zero => simpa using q
          | succ i => simpa using h2 i o (by simpa using q)
  obtain ⟨h1, h2⟩ := key h
  refine ⟨by rw [h1, List.length_take], fun i o q => ?_⟩
  have := h2 i o q
  rw [List.getElem?_take] at this
  split at this
  · unfold slot
    rw [this]
  · cases this
def asB (os : List O) (as' : Nat → List Addr) (i : Nat) : List Addr := match os[i]? with
  | some (.sh _) => []
  | some _ => as' i
  | none => []
/-- the arguments' things behind the body -/
theorem args_back {c : Cn} {H0 H1 Fr Fr2 H H' : Hp} {vs : List V} {os os' : List O} {n : Nat} {σ' : St} {e : Env} {as as' : Nat → List Addr} (rp0 : Rp c H0 Fr H (vs.map some) (os.map some) as) (hn : vs.length = n) (s : Same H0 H1)
    (hp : ∀ (i : Nat) (o : O), os[i]? = some o → (∀ d, o ≠ .sh d) → σ'[i]? = (vs.map some)[i]?) (r : Rp c H1 Fr2 H' σ' e as') (he : endF n e = some os') (hl : n ≤ e.length) :
    ∃ as2, Rp c H1 Fr2 H' (vs.map some) ((mergeO os os').map some) as2 := by
  obtain ⟨h1, h2⟩ := endF_get he
  have hos : os.length = n := by
    have := rp0.len
    simpa [hn] using this
  have hos' : os'.length = os.length := by omega
  have hm := mergeO_eq hos'
  -- shared arguments: from the start; the others: from the end
  have own : ∀ i o, slot ((mergeO os os').map some) i = some o → (∃ d, os[i]? = some (.sh d) ∧ o = .sh d) ∨ (slot e i = some o ∧ σ'[i]? = (vs.map some)[i]? ∧ ∀ d, os[i]? ≠ some (.sh d)) := fun i o q => by
    have q2 : (mergeO os os')[i]? = some o := by
      unfold slot at q
      rw [List.getElem?_map] at q
      cases z : (mergeO os os')[i]? with
      | none => rw [z] at q; cases q
      | some x => rw [z] at q; simpa using q
    rcases mergeO_get q2 with z | ⟨z1, o1, z2, z3⟩
    · exact .inl z
    · refine .inr ⟨h2 i o z1, hp i o1 z2 z3, fun d z => ?_⟩
      rw [z2] at z
      exact z3 d (by simpa using z)
  refine ⟨asB os as', by simp [hm, hos, hn], r.sub, r.fr, fun i o q => ?_, fun i a ha => ?_, fun i j a ha hj => ?_, fun i => ?_, fun i q => ?_, r.tab.sub fun i a z => ⟨i, by
    unfold asB at z
    split at z
    · cases z
    · exact z
    · cases z⟩⟩
  · rcases own i o q with ⟨d, z1, rfl⟩ | ⟨z1, z2, z3⟩
    · obtain ⟨v, g1, g2⟩ := rp0.own i (.sh d) (by unfold slot; rw [List.getElem?_map, z1]; rfl)
      exact ⟨v, g1, by unfold asB; rw [z1]; exact ⟨rfl, Dat.mono s _ _ g2.2⟩⟩
    · obtain ⟨v, g1, g2⟩ := r.own i o z1
      refine ⟨v, by rw [← z2]; exact g1, ?_⟩
      unfold asB
      cases z : os[i]? with
      | none =>
        have hlt := slot_lt q
        have : i < os.length := by simpa [hm] using hlt
        rw [List.getElem?_eq_none_iff] at z
        omega
      | some o1 =>
        cases o1 with
        | sh d => exact absurd z (z3 d)
        | fl l => exact g2
        | fd l => exact g2
        | fo k l => exact g2
  · unfold asB at ha
    split at ha
    · cases ha
    · exact r.off i a ha
    · cases ha
  · unfold asB at ha hj
    split at ha
    · cases ha
    · split at hj
      · cases hj
      · exact r.sep i j a ha hj
      · cases hj
    · cases ha
  · unfold asB
    split
    · exact List.nodup_nil
    · exact r.nd i
    · exact List.nodup_nil
  · have q2 : (mergeO os os')[i]? = none := by
      unfold slot at q
      rw [List.getElem?_map] at q
      cases z : (mergeO os os')[i]? with
      | none => rfl
      | some x => rw [z] at q; cases q
    have : os[i]? = none := by
      rw [List.getElem?_eq_none_iff] at q2 ⊢
      omega
    unfold asB
    rw [this]
section
variable {P : Program} {w : World} {K : PySem.W.Frag} {mg : Str → Option Value} {base : Heap} {t : Tb}
theorem gdO_get : ∀ {pr : Nat → Bool} {os : List O} {j i : Nat} {o : O}, gdO pr j os = true → os[i]? = some o → (∀ d, o ≠ .sh d) → pr (j + i) = true
  | pr, [], j, i, o, h, q, _ => by simp at q
  | pr, o1 :: os, j, 0, o, h, q, z => by
    simp at q
    subst q
    cases o1 with
    | sh d => exact absurd rfl (z d)
    | fl l => exact (Bool.and_eq_true_iff.mp (show (pr j && gdO pr (j + 1) os) = true from h)).1
    | fd l => exact (Bool.and_eq_true_iff.mp (show (pr j && gdO pr (j + 1) os) = true from h)).1
    | fo k l => exact (Bool.and_eq_true_iff.mp (show (pr j && gdO pr (j + 1) os) = true from h)).1
  | pr, o1 :: os, j, i + 1, o, h, q, z => by
    have h2 : gdO pr (j + 1) os = true := by
      cases o1 with
      | sh d => exact h
      | fl l => exact (Bool.and_eq_true_iff.mp (show (pr j && gdO pr (j + 1) os) = true from h)).2
      | fd l => exact (Bool.and_eq_true_iff.mp (show (pr j && gdO pr (j + 1) os) = true from h)).2
      | fo k l => exact (Bool.and_eq_true_iff.mp (show (pr j && gdO pr (j + 1) os) = true from h)).2
    have := gdO_get (i := i) h2 (by simpa using q) z
    rw [show j + (i + 1) = j + 1 + i by omega]
    exact this
theorem Rp.pad {c : Cn} {H0 Fr H : Hp} {σ : St} {e : Env} {as : Nat → List Addr} (r : Rp c H0 Fr H σ e as) (j : Nat) : ∃ as', Rp c H0 Fr H (σ ++ List.replicate j none) (e ++ List.replicate j none) as' := by
  refine r.re (by simp [r.len]) id (fun i o q => ?_) (fun i j _ _ _ _ h => h)
  by_cases hi : i < e.length
  · rw [slot_app_l hi] at q
    exact ⟨q, by rw [id, get_app_l (by rw [← r.len]; exact hi)]⟩
  · obtain ⟨k, rfl⟩ : ∃ k, i = e.length + k := ⟨i - e.length, by omega⟩
    rw [slot_app_r] at q
    unfold slot at q
    split at q
    · rename_i z
      have := List.mem_of_getElem? z
      simp at this
    · cases q
/-- a def of the text, its code object known, where nothing is being shown -/
theorem okC {x qual : Str} {params : Arguments} {body : List Stmt} {scope : Scope} {dvs : List V} {kws : List (Str × V)} {f : Addr} {fd : FuncData} {CX : CXT} {N ps : List Str} {k : Nat} {sp : Sp} (F : FunD K x qual params body scope dvs kws f fd) (S : FnScope N ps scope) (len : ∀ vs H Q E, sp vs H Q E → vs.length = ps.length)
    (hb : ∀ (cdv : Value) (A : Around) (outer : List PySem.Env) (s : Shared) (H : Hp) (vs : List V) (Q : VK) (E : XK), cdv = fd.code → PySem.W.codeIn K cdv qual = true → Room k (A.deeper (envOfC qual scope s.heap.objs.size f cdv)) → (A.deeper (envOfC qual scope s.heap.objs.size f cdv)).guards = some [] → sp vs H Q E →
      ∃ t, PSs (cxOf CX P w K mg base N qual scope f cdv A outer s H E) body t ∧ t { nx := fun _ H' => Q .non H', rt := Q } (start N vs) H) : FnQ P w K mg base CX (k + 1) f fd ps sp := by
  obtain ⟨oc, od, dV, kV, doc, pm, an, cdv, ct, osl, rfl, lk, hcd, _, _⟩ := F.ex
  refine ⟨len, fun B out st H ar us vs Q E hr hu e0 bnd rel asked => ?_⟩
  have hl := len _ _ _ _ asked
  have inK : K.In st.heap := e0.mod.kin.keeps fun a o e => (e0.bs a o e).1
  have noL : st.heap.NoLimit := e0.mod.nolimit.keeps fun a o e => (e0.bs a o e).1
  have kinds : ∀ y ∈ ps.zip us, scope.names.lookup y.1 = some .local ∨ (scope.names.lookup y.1 = some .cell ∧ ((cellsFrom (st.heap.objs.size + 1) scope.names []).lookup y.1).isSome = true) := by
    rintro ⟨n, v⟩ hy
    exact (S.par n (List.of_mem_zip hy).1).imp id fun c => ⟨c, PySem.W.cellsFrom_some _ _ _ (.inl c)⟩
  refine codeAny_call_function hr.depth (inK _ _ lk) rfl S.co S.gen rfl (PySem.W.codeRec_of inK hcd) (bnd _ _ _ _ (wpAny_newFunctionEnv_cells S.kind kinds fun en he s1 x => ?_))
  subst he
  refine ⟨noL.keeps x.toInCall.keep, codeAny_func ?_⟩
  obtain ⟨t, ht, hq⟩ := hb cdv B out st H vs Q E rfl hcd (hr.deeper _) (by exact hu) asked
  refine wpAny_mono (ht.run [] s1 (start N vs) H _ (inv_start S hr.hd e0 hl rel x) hq) (fun fl s2 got => ?_) fun _ _ got => got
  match fl, got with
  | .ret u, ⟨v, σ2, H2, J, rv, q⟩ => exact ⟨v, H2, J.os, J.bare, J.base, J.hok, rv, q⟩
  | .next, ⟨σ2, H2, J, q⟩ => exact ⟨.non, H2, J.os, J.bare, J.base, J.hok, rfl, q⟩
  | .brk, ⟨_, _, _, q⟩ => exact q.elim
  | .cont, ⟨_, _, _, q⟩ => exact q.elim
/-- a promise as what the body's plain function must do -/
theorem fn_read {c : Cn} {pr : Nat → Bool} {n j : Nat} {m : MS} {Z : Fn} {vs : List V} {H : Hp} {Q : VK} {E : XK} (hZ : ∀ os, Z os ≠ .bad → Z os = runF pr n j m os) (hsp : spF t c Z n vs H Q E) :
    tS t c (fun cls d _ H => E cls d H) pr m { nx := fun _ H' => Q .non H', rt := Q } (vs.map some ++ List.replicate j none) H := by
  obtain ⟨hvs, os, H0, Fr, as, rp, hm⟩ := hsp
  obtain ⟨as1, rp1⟩ := rp.pad j
  refine ⟨_, H0, Fr, as1, rp1, ?_⟩
  have hne : Z os ≠ .bad := fun z => by
    rw [z] at hm
    exact hm
  rw [hZ os hne] at hm
  unfold runF at hm
  by_cases hg : gdO pr 0 os = true
  case neg =>
    rw [if_neg hg] at hm
    exact hm.elim
  rw [if_pos hg] at hm
  have prot : ∀ {σ' : St}, Prot pr (vs.map some ++ List.replicate j none) σ' → ∀ (i : Nat) (o : O), os[i]? = some o → (∀ d, o ≠ .sh d) → σ'[i]? = (vs.map some)[i]? := fun {σ'} p i o q z => by
    have hlt : i < (vs.map some).length := by
      have h1 := (List.getElem?_eq_some_iff.mp q).1
      have h2 := rp.len
      simp at h2 ⊢
      omega
    have h1 := gdO_get hg q z
    rw [Nat.zero_add] at h1
    rw [p.2 i h1, get_app_l hlt]
  have elen : ∀ {σ' : St} {H1 Fr' H' : Hp} {e : Env} {as' : Nat → List Addr}, Prot pr (vs.map some ++ List.replicate j none) σ' → Rp c H1 Fr' H' σ' e as' → n ≤ e.length := fun p r => by
    rw [r.len, p.1]
    simp [hvs]
  cases q : m (os.map some ++ List.replicate j none) with
  | bad =>
    rw [q] at hm
    exact hm
  | bk e =>
    rw [q] at hm
    exact hm.elim
  | ct e =>
    rw [q] at hm
    exact hm.elim
  | nx e =>
    rw [q] at hm
    cases z : endF n e with
    | none =>
      simp only [finR, z] at hm
    | some os' =>
      simp only [finR, z] at hm
      intro σ' H1 H' as' s1 p r
      obtain ⟨as2, r2⟩ := args_back rp hvs s1 (prot p) r z (elen p r)
      exact hm .non H1 H' s1 (r2.sh1 rfl)
  | rt o e =>
    rw [q] at hm
    cases z : endF n e with
    | none =>
      simp only [finR, z] at hm
    | some os' =>
      simp only [finR, z] at hm
      intro v σ' H1 H' s1 p ⟨bs, as', ow, nd, off, r⟩
      -- the frame with the result's own objects
      have rp2 : Rp c H0 Fr H (vs.map some) (os.map some) as := rp
      obtain ⟨as2, r2⟩ := args_back rp hvs s1 (prot p) r z (elen p r)
      exact hm v H1 H' s1 ⟨bs, as2, ow, nd, off, r2⟩
  | ex k' p' e =>
    rw [q] at hm
    cases z : endF n e with
    | none =>
      simp only [finR, z] at hm
    | some os' =>
      simp only [finR, z] at hm
      intro σ' H1 H' as' cls dx s1 p r xa
      obtain ⟨as2, r2⟩ := args_back rp hvs s1 (prot p) r z (elen p r)
      exact hm H1 H' as2 cls dx s1 r2 xa
/-- THE RULE for a def: its body as a plain function; pr: the parameters whose things it may be lent (never stored to); Z: what it does, told where it is asked -/
theorem fn_F {x qual : Str} {params : Arguments} {body : List Stmt} {scope : Scope} {dvs : List V} {kws : List (Str × V)} {f : Addr} {fd : FuncData} {N ps : List Str} {k n j : Nat} {m : MS} (F : FunD K x qual params body scope dvs kws f fd) (S : FnScope N ps scope) (pr : Nat → Bool) (hn : ps.length = n) (hN : N.length = n + j) (Z : Fn)
    (hZ : ∀ os, Z os ≠ .bad → Z os = runF pr n j m os)
    (hb : ∀ (cdv : Value) (A : Around) (outer : List PySem.Env) (s : Shared) (H : Hp) (E : XK), cdv = fd.code → PySem.W.codeIn K cdv qual = true → Room k (A.deeper (envOfC qual scope s.heap.objs.size f cdv)) → (A.deeper (envOfC qual scope s.heap.objs.size f cdv)).guards = some [] →
      SSs (cxOf (L2.CX P w) P w K mg base N qual scope f cdv A outer s H E) t (fun cls d _ H => E cls d H) pr body m) : FO P w K mg base t (k + 1) f fd ps Z n := by
  refine okC F S (fun vs H Q E h => by rw [h.1, hn]) fun cdv A outer s H vs Q E hc hci hr hu hsp => ⟨_, hb cdv A outer s H E hc hci hr hu, ?_⟩
  have hst : L2.start N vs = vs.map some ++ List.replicate j none := by
    unfold L2.start
    rw [hN, hsp.1, Nat.add_sub_cancel_left]
  rw [hst]
  exact fn_read hZ hsp
end
end F
end

section
set_option Elab.async false
set_option linter.all false
set_option autoImplicit false
set_option maxRecDepth 100000
/-! F layer, part I: built-ins, methods, what is walked, match. -/
namespace F
open PySem PySem.Spec PyProof.Rows L2
section
variable {X : Cx} {t : Tb} {W : WX} {a b : Expr} {es : List Expr} {ma mb : M R} {ms : List (M R)} {pos p : Pos} {x : Str} {id : String}
/-! ### built-ins by values -/
theorem se_bi {r : List V → Hp → VK → Prop} {f : List D → Option D} (hc : CallR X (.builtin id) r) (h : CB (cn X t) r f) (hg : Gl X x) (hm : X.mg x = none) (hv : bootBuiltins x = some (.builtin id)) (ha : SA X t W (a :: es) (mRs ms)) (hn : x ≠ "__name__" := by decide) (hdb : (x == ("__debug__" : Str)) = false := by decide)
    (he : starEach (a :: es) X.env = (false, eval a X.env) :: starEach es X.env := by rfl) (hpl : (backTo pos (starEach es X.env)).any (·.1) = false := by rfl) : SE X t W (.Call (.Name x p) (a :: es) [] pos) (mBi f ms) :=
  PE.imp (pe_callB hc hg hm hv ha hn hdb he hpl) fun _ _ _ q => tI_bi h q
theorem se_bl' {r : List V → Hp → VK → Prop} {f : List D → Option (List D)} (hc : CallR X (.builtin id) r) (h : CBl (cn X t) r f) (hg : Gl X x) (hm : X.mg x = none) (hv : bootBuiltins x = some (.builtin id)) (ha : SA X t W (a :: es) (mRs ms)) (hn : x ≠ "__name__" := by decide) (hdb : (x == ("__debug__" : Str)) = false := by decide)
    (he : starEach (a :: es) X.env = (false, eval a X.env) :: starEach es X.env := by rfl) (hpl : (backTo pos (starEach es X.env)).any (·.1) = false := by rfl) : SE X t W (.Call (.Name x p) (a :: es) [] pos) (mBl f ms) :=
  PE.imp (pe_callB hc hg hm hv ha hn hdb he hpl) fun _ _ _ q => tI_bl h q
theorem se_ti {r : List V → Hp → VK → Prop} {f : List D → Option D} (hc : CallR X (.type id) r) (h : CB (cn X t) r f) (hg : Gl X x) (hm : X.mg x = none) (hv : bootBuiltins x = some (.type id)) (ha : SA X t W (a :: es) (mRs ms)) (hn : x ≠ "__name__" := by decide) (hdb : (x == ("__debug__" : Str)) = false := by decide)
    (he : starEach (a :: es) X.env = (false, eval a X.env) :: starEach es X.env := by rfl) (hpl : (backTo pos (starEach es X.env)).any (·.1) = false := by rfl) : SE X t W (.Call (.Name x p) (a :: es) [] pos) (mBi f ms) :=
  PE.imp (pe_callTy hc hg hm hv ha hn hdb he hpl) fun _ _ _ q => tI_bi h q
end
section
variable {c : Cn}
theorem Dats1.one {H0 H : Hp} {d : D} {vs : List V} (h : Dats1 c H0 H [d] vs) : ∃ v, vs = [v] ∧ Dat1 c H0 H d v := by
  obtain ⟨v, r, h1, h2, h3⟩ := h
  have h3 : r = [] := h3
  subst h3
  exact ⟨v, h1, h2⟩
theorem Dats1.two {H0 H : Hp} {d e : D} {vs : List V} (h : Dats1 c H0 H [d, e] vs) : ∃ v w, vs = [v, w] ∧ Dat1 c H0 H d v ∧ Dat1 c H0 H e w := by
  obtain ⟨v, r, h1, h2, h3⟩ := h
  obtain ⟨w, h4, h5⟩ := Dats1.one h3
  subst h4
  exact ⟨v, w, h1, h2, h5⟩
def rLenV (K : PySem.W.Frag) : List V → Hp → VK → Prop := fun xs H Q => (∃ p ys, xs = [.ref p] ∧ (SqL K H p ys ∨ SqT K H p ys) ∧ Q (.int ys.length) H) ∨ ∃ z, xs = [.str z] ∧ z.length ≤ sizeLine ∧ Q (.int z.length) H
theorem call_lenV {X : Cx} : CallR X (.builtin "len") (rLenV X.K) := CallR.or call_len_seq call_len_str
theorem b_len : CB c (rLenV c.K) lenD := by
  intro H0 H xs ds dz Q s e h o
  match ds, e with
  | [.str x], e =>
    cases e
    obtain ⟨v, rfl, rfl, hl⟩ := h.one
    exact .inr ⟨sS x, rfl, by rw [sS_len, sizeLine_lim]; exact hl, by rw [sS_len]; exact o.int⟩
  | [.lst l], e =>
    cases e
    obtain ⟨v, rfl, hl, q, vs, rfl, h2, h3⟩ := h.one
    exact .inl ⟨q, vs, rfl, .inl h2, by rw [h3.len]; exact o.int⟩
  | [.tup l], e =>
    cases e
    obtain ⟨v, rfl, hl, q, vs, rfl, h2, h3⟩ := h.one
    exact .inl ⟨q, vs, rfl, .inr h2, by rw [h3.len]; exact o.int⟩
def rInt1 : List V → Hp → VK → Prop := fun xs H Q => (∃ i, xs = [.int i] ∧ Q (.int i) H) ∨ ∃ k, xs = [.bl k] ∧ Q (.int (if k then 1 else 0)) H
theorem b_int : CB c rInt1 intD := by
  intro H0 H xs ds dz Q s e h o
  match ds, e with
  | [.int i], e =>
    cases e
    obtain ⟨v, rfl, h1⟩ := h.one
    cases h1
    exact .inl ⟨i, rfl, o.int⟩
  | [.bl b], e =>
    cases e
    obtain ⟨v, rfl, h1⟩ := h.one
    cases h1
    exact .inr ⟨b, rfl, o.int⟩
theorem b_abs : CB c (fun xs H Q => ∃ i, xs = [.int i] ∧ Q (.int (if i < 0 then -i else i)) H) absD := by
  intro H0 H xs ds dz Q s e h o
  match ds, e with
  | [.int i], e =>
    cases e
    obtain ⟨v, rfl, h1⟩ := h.one
    cases h1
    exact ⟨i, rfl, o.int⟩
theorem b_max2 : CB c (fun xs H Q => ∃ i j, xs = [.int i, .int j] ∧ Q (.int (if j > i then j else i)) H) max2D := by
  intro H0 H xs ds dz Q s e h o
  match ds, e with
  | [.int i, .int j], e =>
    cases e
    obtain ⟨v, w, rfl, h1, h2⟩ := h.two
    cases h1
    cases h2
    exact ⟨i, j, rfl, o.int⟩
theorem b_min2 : CB c (fun xs H Q => ∃ i j, xs = [.int i, .int j] ∧ Q (.int (if j < i then j else i)) H) min2D := by
  intro H0 H xs ds dz Q s e h o
  match ds, e with
  | [.int i, .int j], e =>
    cases e
    obtain ⟨v, w, rfl, h1, h2⟩ := h.two
    cases h1
    cases h2
    exact ⟨i, j, rfl, o.int⟩
end
section
variable {X : Cx} {pins : List (Addr × Obj)} {σ : St} {H : Hp} {s : Shared} {p : Addr} {xs : List V}
theorem sq_lst (I : Inv X pins σ H s) (h : SqL X.K H p xs) : ∃ (its : List Value) (n : Nat) (sl : Array (Option Value)), xs.length ≤ sizeLine ∧ Vals xs its ∧ xs.length = its.length ∧ s.heap.get? p = some ⟨.type "list", none, .seq its.toArray n, sl⟩ := by
  obtain ⟨its, r, ⟨⟨oc, od, dt, sl⟩, n, e, hc, hd, hs⟩, hz⟩ := I.list h
  simp only at hc hd hs
  subst hc hd hs
  exact ⟨its, n, sl, hz, r, r.length, e⟩
end
/-- xs + ys of lists -/
def rCatR (K : PySem.W.Frag) : R2 := fun x y H Q => ∃ l b xs zs, x = .ref l ∧ y = .ref b ∧ SqL K H l xs ∧ SqL K H b zs ∧ xs.length + zs.length ≤ sizeLine ∧ ∀ p, H p = none → Q (.ref p) (upd H p (.lst (xs ++ zs)))
theorem op_catR {X : Cx} : OpR X (binaryOp .Add) (rCatR X.K) := by
  rintro pins s σ H x y v u Q I rx ry ⟨l, b, xs, zs, e1, e2, hl, hb, few, q⟩
  subst e1 e2
  cases rx
  cases ry
  have ⟨is1, n1, sl1, _, r1, len1, at_l⟩ := sq_lst I hl
  have ⟨is2, n2, sl2, _, r2, len2, at_b⟩ := sq_lst I hb
  have both : is1.toArray ++ is2.toArray = (is1 ++ is2).toArray := List.append_toArray ..
  have size : is1.toArray.size + is2.toArray.size ≤ sizeLine := by
    rw [List.size_toArray, List.size_toArray, ← len1, ← len2]
    exact few
  have adds := list_addW l b is1.toArray is2.toArray n1 n2 none none sl1 sl2 size
  refine concat_meets ⟨_, at_l, rfl⟩ ⟨_, at_b, rfl⟩ noFill_list_add seq_list_add PySem.F.slot_list_add PySem.F.entry_list_add (PySem.F.args_list_add_2 _ _) adds ⟨at_l, at_b, ?_⟩
  rw [both]
  refine ⟨.ref _, _, I.lnew (r1.append r2) ?_, rfl, q _ I.fresh⟩
  rw [List.length_append]
  exact few
theorem v_cat {c : Cn} : LOp2 c (rCatR c.K) catL := by
  intro H0 H x y dx dy l Q s e hx hy nl
  match dx, dy, e with
  | .lst a, .lst b, e =>
    obtain ⟨h1, p1, vs, rfl, h2, h3⟩ := hx
    obtain ⟨g1, p2, ws, rfl, g2, g3⟩ := hy
    have e : (if a.length + b.length ≤ lim then some (a ++ b) else none) = some l := e
    by_cases hl : a.length + b.length ≤ lim
    · rw [if_pos hl] at e
      cases e
      refine ⟨p1, p2, vs, ws, rfl, rfl, h2, g2, by rw [h3.len, g3.len, sizeLine_lim]; exact hl, fun p hp => nl p _ hp (by simpa using hl) (Dats.app h3 g3)⟩
    · rw [if_neg hl] at e
      cases e
/-! ### a name's own list -/
section
variable {c : Cn}
theorem m_app : MOp1 c rAppend appF := by
  intro H0 H p l vs x d y l' Q s e hl hp hv hy q
  have e : (if l.length < lim then some (D.non, l ++ [x]) else none) = some (d, l') := e
  split at e
  · cases e
    rename_i h
    exact ⟨p, vs, y, rfl, rfl, hp, by rw [hv.len, sizeLine_lim]; exact h, q _ _ (by simp; omega) (Dats.app hv (Dats.one hy)) rfl⟩
  · cases e
end
end F
end

section
set_option Elab.async false
set_option linter.all false
set_option autoImplicit false
set_option maxRecDepth 100000
/-! F layer, part J: what is walked. -/
namespace F
open PySem PySem.Spec PyProof.Rows L2
/-! ### enumerate over a text -/
def IteS (z : Str) : It := ⟨fun i _ => i < z.cps.size, fun i H v H' => ∃ T c, v = .ref T ∧ H T = none ∧ H' = upd H T (.tup [.int (i : Nat), .str ⟨#[c]⟩]) ∧ z.cps[i]? = some c, fun i _ => i = z.cps.size⟩
/-- a text's iterator draws its signs -/
theorem draws_signs {P : Program} {w : World} {A : Around} (hh : A.handled = none) (z : Str) (t : Tok) (it : Addr) :
    Draws P w A it [it] z.cps.size (fun i v => ∃ c u, z.cps[i]? = some c ∧ v = .str ⟨#[c]⟩ u) (fun i h => h.IsStrIter it (strIterType z) z t i) := by
  unfold strIterType
  by_cases h : z.cps.all (· < 128) = true
  all_goals split
  all_goals first
    | exact Draws.strAscii hh it z t
    | exact Draws.strWide hh it z t
theorem turn_enumS {P : Program} {w : World} {K : PySem.W.Frag} {elts : List Expr} {kk : Nat} {tpos : Pos} (z : Str) (t : Tok) (e it : Addr) :
    Turn P w K (.Tuple elts kk tpos) (IteS z) [e, it] e (fun i h => (∃ old, IsEnum h e it ((i : Nat) : Int) old) ∧ h.IsStrIter it (strIterType z) z t i ∧ e ≠ it) where
  mem := List.mem_cons_self
  obj := by
    rintro i h ⟨⟨old, he⟩, ⟨o, ho, _, hd⟩, _⟩ b hb
    rcases List.mem_cons.mp hb with e1 | hb
    · subst e1
      exact ⟨_, he, fun v q => nomatch q⟩
    · cases List.mem_singleton.mp hb
      refine ⟨o, ho, fun v q => ?_⟩
      rw [hd] at q
      cases q
  keep := by
    rintro i h h' ⟨⟨old, he⟩, ⟨o, ho, r⟩, ne⟩ k
    exact ⟨⟨old, k e List.mem_cons_self _ he⟩, ⟨o, k it (List.mem_cons_of_mem _ List.mem_cons_self) o ho, r⟩, ne⟩
  item := by
    rintro X eP ew eK hc i pins s σ H E I hf ⟨⟨old, he⟩, hit, ne⟩ hg
    subst eP ew eK
    have lt_e := Heap.lt_size he
    have lt_it : it < s.heap.objs.size := hit.elim fun _ q => Heap.lt_size q.1
    have out : e ∉ [it] := fun q => ne (List.mem_singleton.mp q)
    refine wpAny_pyNext_enum_itemD (draws_signs (A := X.A.in1) (show X.A.in1.handled = none from I.ok.hd hc) z t it) he hit hg ne out fun u h' tk ⟨c, tu, at_i, eu⟩ ho hit' hT size keep => ?_
    subst eu
    refine ⟨_, rfl, wpAny_letOwnedTupleGo_enum (s := { s with heap := h', toks := tk + 1 }) ho fun h2 he2 sb => ?_⟩
    have pair := (sb.2 _ (Nat.ne_of_gt lt_e)).trans hT
    have fresh := I.hok.fresh (Nat.le_refl s.heap.objs.size)
    have still : ∀ b o, b ∉ [e, it] → s.heap.get? b = some o → h2.get? b = some o := fun b o nb q => by
      have n1 : b ≠ e := fun z => nb (z ▸ List.mem_cons_self)
      have n2 : b ≠ it := fun z => nb (z ▸ List.mem_cons_of_mem _ List.mem_cons_self)
      refine (sb.2 b n1).trans (keep b o n1 ?_ q)
      simpa using n2
    have J := I.turnedNew (T := s.heap.objs.size) (ob := .tup [.int (i : Nat), .str ⟨#[c]⟩]) (t' := tk + 1) still hf (Nat.le_refl _) ⟨show 2 ≤ sizeLine by decide, [.int i tk, .str ⟨#[c]⟩ tu], .cons ⟨_, rfl⟩ (.cons ⟨_, rfl⟩ .nil), ⟨_, pair, rfl, _, rfl⟩⟩
    have ⟨oi, hoi, ri⟩ := hit'
    refine ⟨.ref s.heap.objs.size, _, J, rfl, ⟨_, c, rfl, fresh, rfl, at_i⟩, ⟨⟨_, he2⟩, ⟨oi, (sb.2 it ne.symm).trans hoi, ri⟩, ne⟩, fun b hb => ?_⟩
    have lt_b : b < s.heap.objs.size := by
      rcases List.mem_cons.mp hb with z | hb
      · exact z ▸ lt_e
      · exact List.mem_singleton.mp hb ▸ lt_it
    exact (upd_ne (Nat.ne_of_lt lt_b)).trans (hf b hb).1
  done := by
    rintro X eP ew eK hc i pins s σ H E I hf ⟨⟨old, he⟩, hit, ne⟩ hg
    subst eP ew eK
    cases hg
    have ⟨a0, a1, _, a2, a3, a4⟩ := hf it (List.mem_cons_of_mem _ List.mem_cons_self)
    exact wpAny_pyNext_enum_endD (draws_signs (A := X.A.in1) (show X.A.in1.handled = none from I.ok.hd hc) z t it) he hit fun h' ext => ⟨rfl, I.turned (t' := s.toks) ext a0 a1 a2 a3 a4⟩
  self := by
    rintro A i s Q E ⟨⟨_, he⟩, _⟩ q
    exact wpAny_pyIter_enum he q
def iEnumS (ta : TA) : TI := fun σ H R => ta σ H fun vs H1 => ∃ z, vs = [.str z] ∧ R (IteS z) H1
theorem pi_enumS {X : Cx} {e : Expr} {ta : TA} {p pos tpos : Pos} {elts : List Expr} {kk : Nat} (hg : Gl X "enumerate") (hm : X.mg "enumerate" = none) (ha : PA X [e] ta) (hs : starEach [e] X.env = [(false, eval e X.env)] := by rfl) :
    PI X (.Tuple elts kk tpos) (.Call (.Name "enumerate" p) [e] [] pos) (iEnumS ta) := by
  constructor
  intro pins s σ H R I h
  refine Call_ (ld_blt I hg hm boot_enumerate (PyProof.Rows.callWith_type1 ?_ hs rfl))
  refine thn (ha.run pos pins s σ H _ I h) fun us s1 ⟨vs, H1, I1, r1, z, ez, q⟩ => ?_
  subst ez
  rcases r1 with _ | ⟨⟨t, et⟩, _ | _⟩
  subst et
  refine call_enumerate_str fun h' he hit _ keep => wpAny_pyIter_enum he ?_
  refine ⟨_, [s1.heap.objs.size + 1, s1.heap.objs.size], _, _, H1, rfl, I1.kept keep, turn_enumS z t _ s1.heap.objs.size, ⟨⟨.none, he⟩, hit, Nat.succ_ne_self _⟩, fun b hb => ?_, q⟩
  have le : s1.heap.objs.size ≤ b := by
    rcases List.mem_cons.mp hb with e | hb
    · exact e ▸ Nat.le_succ _
    · exact Nat.le_of_eq (List.mem_singleton.mp hb).symm
  exact I1.fpOk le (I1.hok.fresh le)
theorem walk_enumS {z : Str} : Walk (IteS z) z.cps.size (fun _ => True) (fun i H v H' => ∃ T c, v = .ref T ∧ H T = none ∧ H' = upd H T (.tup [.int (i : Nat), .str ⟨#[c]⟩]) ∧ z.cps[i]? = some c) :=
  ⟨fun i H hi _ => hi, fun H _ => rfl, fun i H x H' _ _ y => y⟩
/-! ### what is walked -/
theorem same_upd {H : Hp} {p : Addr} {o : HO} (h : H p = none) : Same H (upd H p o) := fun b u e => by
  by_cases z : b = p
  · rw [z, h] at e; cases e
  · rw [upd_ne z]; exact e

section
variable {X : Cx} {t : Tb} {W : WX} {a : Expr} {ma : M R} {tg : Expr} {pos p : Pos}
def ItOp (c : Cn) (u : V → Hp → (It → Hp → Prop) → Prop) (f : D → Option (List D)) : Prop := ∀ (H0 H : Hp) (x : V) (dx : D) (l : List D) (Rr : It → Hp → Prop), Same H0 H → f dx = some l → Dat c H0 dx x → (∀ J, WkD c H0 J l → Rr J H) → u x H Rr
theorem tI_it {u : V → Hp → (It → Hp → Prop) → Prop} {f : D → Option (List D)} (h : ItOp (cn X t) u f) {σ : St} {H : Hp} {Rr : It → Hp → Prop} (q : tIt t (cn X t) W (mIt f ma) σ H Rr) : tI X t W ma σ H fun x H1 => u x H1 Rr := by
  obtain ⟨e, H0, Fr, as, rp, po⟩ := q
  refine ⟨e, H0, Fr, as, rp, Po.bind (f := fun r e1 => andThen (leak r e1) fun d e2 => ofO (f d) fun l => .ok l e2) po fun ra e1 v H1 H' s rr po => ?_⟩
  obtain ⟨d, e2, H2, as, q, s2, rp, hd, po⟩ := po.leak rr
  obtain ⟨l, e3, po⟩ := po.ofO
  exact h H2 H' v d l Rr rp.sub e3 hd fun J wk => po.ret (Same.refl _) ⟨⟨as, rp⟩, wk⟩
/-- the one argument of a call -/
theorem tI_it1 {u : List V → Hp → (It → Hp → Prop) → Prop} {f : D → Option (List D)} (h : ItOp (cn X t) (fun x H Rr => u [x] H Rr) f) {σ : St} {H : Hp} {Rr : It → Hp → Prop} (q : tIt t (cn X t) W (mIt f ma) σ H Rr) :
    tG t (cn X t) W (rrDs (cn X t)) (mLks [ma]) σ H fun vs H1 => u vs H1 Rr := by
  obtain ⟨e, H0, Fr, as, rp, po⟩ := q
  refine ⟨e, H0, Fr, as, rp, ?_⟩
  have po : Po t (cn X t) W Fr σ H0 _ Rr (andThen (ma e) fun r e1 => andThen (leak r e1) fun d e2 => ofO (f d) fun l => .ok l e2) := po
  have go : Po t (cn X t) W Fr σ H0 (rrDs (cn X t) Fr σ) (fun vs H1 => u vs H1 Rr) (andThen (ma e) fun r e1 => andThen (leak r e1) fun d e2 => .ok [d] e2) := by
    cases q0 : ma e with
    | ok ra e1 =>
      rw [q0] at po
      have po : Po t (cn X t) W Fr σ H0 _ Rr (andThen (leak ra e1) fun d e2 => ofO (f d) fun l => .ok l e2) := po
      show Po t (cn X t) W Fr σ H0 _ _ (andThen (leak ra e1) fun d e2 => .ok [d] e2)
      cases q1 : leak ra e1 with
      | ok d e2 =>
        rw [q1] at po
        rintro vs H1 H' s ⟨⟨as1, rp1⟩, v, vs', rfl, hd, k2⟩
        have k2 : vs' = [] := k2
        subst k2
        obtain ⟨l, e3, po⟩ := Po.ofO po
        exact h H1 H' v d l Rr rp1.sub e3 hd fun J wk => po J H1 H' s ⟨⟨as1, rp1⟩, wk⟩
      | ex k' p e1 =>
        rw [q1] at po
        exact po
      | bad =>
        rw [q1] at po
        exact po.elim
    | ex k' p e1 =>
      rw [q0] at po
      exact po
    | bad =>
      rw [q0] at po
      exact po.elim
  exact go
theorem wk_mk {c : Cn} {H0 : Hp} {J : It} {l : List D} {n : Nat} {G : Hp → Prop} {Y : Nat → Hp → V → Hp → Prop} (w : Walk J n G Y) (hn : n = l.length) (hG : ∀ H2 H', Same H0 H2 → Same H2 H' → G H')
    (hY : ∀ i H2 H' x H'', i < l.length → Same H0 H2 → Same H2 H' → Y i H' x H'' → ∃ d, l[i]? = some d ∧ ((H'' = H' ∧ Dat c H2 d x) ∨ ∃ p o, x = .ref p ∧ H' p = none ∧ H'' = upd H' p o ∧ Dat c (upd H2 p o) d x)) : WkD c H0 J l := by
  subst hn
  exact ⟨G, Y, w, hG, hY⟩
theorem wk_of {c : Cn} {H0 : Hp} {J : It} {l : List D} {vs : List V} {n : Nat} {G : Hp → Prop} (w : Walk J n G (YAt vs)) (hn : n = l.length) (hd : Dats c H0 l vs) (hG : ∀ H2 H', Same H0 H2 → Same H2 H' → G H') : WkD c H0 J l := by
  subst hn
  refine ⟨G, _, w, hG, ?_⟩
  rintro i H2 H' x H'' hi s1 s2 ⟨rfl, hx⟩
  obtain ⟨v, g1, g2⟩ := hd.get (List.getElem?_eq_getElem hi)
  rw [hx] at g1
  cases g1
  exact ⟨l[i], List.getElem?_eq_getElem hi, .inl ⟨rfl, Dat.mono s1 _ _ g2⟩⟩
theorem it_list {c : Cn} : ItOp c (fun x H1 Rr => ∃ a, x = .ref a ∧ (∃ xs, SqL c.K H1 a xs) ∧ Rr (Itl c.K a) H1) itL := by
  intro H0 H x dx l Rr s e hd q
  match dx, e with
  | .lst l, e =>
    cases e
    obtain ⟨hl, a, vs, rfl, h2, h3⟩ := hd
    exact ⟨a, rfl, ⟨vs, SqL.same s h2⟩, q _ (wk_of walk_list h3.len h3 fun H2 H' s1 s2 => SqL.same (s1.trans s2) h2)⟩
theorem it_tup {c : Cn} : ItOp c (fun x H1 Rr => ∃ a, x = .ref a ∧ (∃ xs, SqT c.K H1 a xs) ∧ Rr (Itt c.K a) H1) itT := by
  intro H0 H x dx l Rr s e hd q
  match dx, e with
  | .tup l, e =>
    cases e
    obtain ⟨hl, a, vs, rfl, h2, h3⟩ := hd
    exact ⟨a, rfl, ⟨vs, SqT.same s h2⟩, q _ (wk_of walk_tup h3.len h3 fun H2 H' s1 s2 => SqT.same (s1.trans s2) h2)⟩
theorem sS_at {x : List Nat} {i c : Nat} (h : (sS x).cps[i]? = some c) : x[i]? = some c := by
  have : x.toArray[i]? = some c := h
  simpa using this
theorem it_str {c : Cn} : ItOp c (fun v H1 Rr => ∃ x, v = .str x ∧ Rr (Its x) H1) itS := by
  intro H0 H x dx l Rr s e hd q
  match dx, e with
  | .str z, e =>
    cases e
    obtain ⟨rfl, hl⟩ := hd
    refine ⟨sS z, rfl, q _ (wk_mk (walk_str (z := sS z)) (by simp [sS]) (fun _ _ _ _ => trivial) ?_)⟩
    · rintro i H2 H' x H'' hi s1 s2 ⟨rfl, cc, hc, rfl⟩
      have hc := sS_at hc
      refine ⟨.str [cc], by simp [hc], .inl ⟨rfl, rfl, by show 1 ≤ lim; decide⟩⟩
theorem enumF_at : ∀ (n : Nat) (l : List D) (i : Nat), (enumF n l)[i]? = l[i]?.map fun d => .tup [.int ((n + i : Nat) : Int), d]
  | n, [], i => by simp [enumF]
  | n, d :: l, 0 => by simp [enumF]
  | n, d :: l, i + 1 => by
    simp only [enumF, List.getElem?_cons_succ]
    rw [enumF_at (n + 1) l i]
    have : n + 1 + i = n + (i + 1) := by omega
    rw [this]
theorem enumF_len : ∀ (n : Nat) (l : List D), (enumF n l).length = l.length
  | _, [] => rfl
  | n, d :: l => by simp [enumF, enumF_len (n + 1) l]
theorem dat_pair {c : Cn} {H : Hp} {p : Addr} {a b : D} {x y : V} (s : ∀ d v, Dat c H d v → Dat c (upd H p (.tup [x, y])) d v) (ha : Dat c H a x) (hb : Dat c H b y) : Dat c (upd H p (.tup [x, y])) (.tup [a, b]) (.ref p) :=
  ⟨by show 2 ≤ lim; decide, p, [x, y], rfl, SqT.of upd_same, x, [y], rfl, s _ _ ha, y, [], rfl, s _ _ hb, rfl⟩
theorem it_enumS {c : Cn} : ItOp c (fun v H1 Rr => ∃ z, [v] = [.str z] ∧ Rr (IteS z) H1) itES := by
  intro H0 H x dx l Rr s e hd q
  match dx, e with
  | .str z, e =>
    cases e
    obtain ⟨rfl, hl⟩ := hd
    refine ⟨sS z, rfl, q _ (wk_mk (walk_enumS (z := sS z)) (by simp [sS, enumF_len]) (fun _ _ _ _ => trivial) ?_)⟩
    · rintro i H2 H' x H'' hi s1 s2 ⟨T, cc, rfl, hT, rfl, hc⟩
      have hc := sS_at hc
      have hT2 : H2 T = none := by
        cases q : H2 T with
        | none => rfl
        | some o => rw [s2 _ _ q] at hT; cases hT
      refine ⟨.tup [.int (i : Nat), .str [cc]], by rw [enumF_at]; simp [hc], .inr ⟨T, _, rfl, hT, rfl, ?_⟩⟩
      exact dat_pair (fun d v h => Dat.mono (same_upd hT2) _ _ h) rfl ⟨rfl, by show 1 ≤ lim; decide⟩
theorem it_enumL {c : Cn} : ItOp c (fun v H1 Rr => ∃ a xs, [v] = [.ref a] ∧ SqL c.K H1 a xs ∧ Rr (Ite c.K a) H1) itEL := by
  intro H0 H x dx l Rr s e hd q
  match dx, e with
  | .lst l, e =>
    cases e
    obtain ⟨hl, a, vs, rfl, h2, h3⟩ := hd
    refine ⟨a, vs, rfl, SqL.same s h2, q _ (wk_mk (walk_enum (K := c.K) (a := a) (xs := vs)) (by rw [enumF_len, h3.len]) (fun H2 H' s1 s2 => SqL.same (s1.trans s2) h2) ?_)⟩
    · rintro i H2 H' x H'' hi s1 s2 ⟨T, x1, y1, rfl, hT, rfl, e1, e2⟩
      cases e1
      have e2 : vs[i]? = some y1 := e2
      rw [enumF_len] at hi
      obtain ⟨v, g1, g2⟩ := h3.get (List.getElem?_eq_getElem hi)
      rw [e2] at g1
      cases g1
      have hT2 : H2 T = none := by
        cases q : H2 T with
        | none => rfl
        | some o => rw [s2 _ _ q] at hT; cases hT
      refine ⟨.tup [.int (i : Nat), l[i]], by rw [enumF_at]; simp [List.getElem?_eq_getElem hi], .inr ⟨T, _, rfl, hT, rfl, ?_⟩⟩
      exact dat_pair (fun d v h => Dat.mono (same_upd hT2) _ _ h) rfl (Dat.mono s1 _ _ g2)
theorem rngF_len : ∀ (lo : Int) (n : Nat), (rngF lo n).length = n
  | _, 0 => rfl
  | lo, n + 1 => by simp [rngF, rngF_len (lo + 1) n]
theorem rngF_at : ∀ (lo : Int) (n i : Nat), i < n → (rngF lo n)[i]? = some (.int (lo + i))
  | _, 0, _, h => absurd h (Nat.not_lt_zero _)
  | lo, n + 1, 0, _ => by simp [rngF]
  | lo, n + 1, i + 1, h => by
    simp only [rngF, List.getElem?_cons_succ]
    rw [rngF_at (lo + 1) n i (Nat.lt_of_succ_lt_succ h)]
    have : lo + 1 + (i : Int) = lo + ((i + 1 : Nat) : Int) := by omega
    rw [this]
theorem wk_rng {c : Cn} {H0 : Hp} {lo : Int} {n : Nat} : WkD c H0 (Itr lo n) (rngF lo n) := by
  refine wk_mk (walk_range (lo := lo) (n := n)) (rngF_len _ _).symm (fun _ _ _ _ => trivial) ?_
  · rintro i H2 H' x H'' hi s1 s2 ⟨rfl, rfl⟩
    rw [rngF_len] at hi
    exact ⟨_, rngF_at _ _ _ hi, .inl ⟨rfl, rfl⟩⟩
theorem it_rng1 {c : Cn} : ItOp c (fun v H1 Rr => ∃ j : Int, [v] = [.int j] ∧ -(2 ^ 62) ≤ j ∧ j < 2 ^ 62 ∧ Rr (Itr 0 j.toNat) H1) itR1 := by
  intro H0 H x dx l Rr s e hd q
  match dx, e with
  | .int j, e =>
    have e : (if -4611686018427387904 ≤ j ∧ j < 4611686018427387904 then some (rngF 0 j.toNat) else none) = some l := e
    by_cases h : -4611686018427387904 ≤ j ∧ j < 4611686018427387904
    · rw [if_pos h] at e
      cases e
      cases hd
      exact ⟨j, rfl, by omega, by omega, q _ wk_rng⟩
    · rw [if_neg h] at e
      cases e
theorem si_list (h : SE X t W a ma) : SI X t W tg a (mIt itL ma) := PI.imp (pi_list h) fun σ H Q q => tI_it it_list q
theorem si_tup (h : SE X t W a ma) : SI X t W tg a (mIt itT ma) := PI.imp (pi_tup h) fun σ H Q q => tI_it it_tup q
theorem si_str (h : SE X t W a ma) : SI X t W tg a (mIt itS ma) := PI.imp (pi_str h) fun σ H Q q => tI_it it_str q
variable {elts : List Expr} {kk : Nat} {tpos : Pos}
theorem si_enumS (hg : Gl X "enumerate") (hm : X.mg "enumerate" = none) (h : SE X t W a ma) (hs : starEach [a] X.env = [(false, eval a X.env)] := by rfl) : SI X t W (.Tuple elts kk tpos) (.Call (.Name "enumerate" p) [a] [] pos) (mIt itES ma) :=
  PI.imp (pi_enumS hg hm (sd_cons h sd_nil hs) hs) fun σ H Q q => tI_it1 (u := fun vs H1 Rr => ∃ z, vs = [.str z] ∧ Rr (IteS z) H1) it_enumS q
theorem si_enumL (hg : Gl X "enumerate") (hm : X.mg "enumerate" = none) (h : SE X t W a ma) (hs : starEach [a] X.env = [(false, eval a X.env)] := by rfl) : SI X t W (.Tuple elts kk tpos) (.Call (.Name "enumerate" p) [a] [] pos) (mIt itEL ma) :=
  PI.imp (pi_enum hg hm (sd_cons h sd_nil hs) hs) fun σ H Q q => tI_it1 (u := fun vs H1 Rr => ∃ b xs, vs = [.ref b] ∧ SqL X.K H1 b xs ∧ Rr (Ite X.K b) H1) it_enumL q
theorem si_rng1 (hg : Gl X "range") (hm : X.mg "range" = none) (h : SE X t W a ma) (hs : starEach [a] X.env = [(false, eval a X.env)] := by rfl) : SI X t W tg (.Call (.Name "range" p) [a] [] pos) (mIt itR1 ma) :=
  PI.imp (pi_range1 hg hm (sd_cons h sd_nil hs) hs) fun σ H Q q => tI_it1 (u := fun vs H1 Rr => ∃ j : Int, vs = [.int j] ∧ -(2 ^ 62) ≤ j ∧ j < 2 ^ 62 ∧ Rr (Itr 0 j.toNat) H1) it_rng1 q
end
end F
end

section
set_option Elab.async false
set_option linter.all false
set_option autoImplicit false
set_option maxRecDepth 100000
/-! F layer, part K: methods of texts, slices, dicts, isinstance. -/
namespace F
open PySem PySem.Spec PyProof.Rows L2
section
variable {X : Cx} {t : Tb} {W : WX} {o a b : Expr} {mo ma mb : M R} {pos p : Pos}
/-! ### a method of a text -/
def SMt1 (c : Cn) (r : V → List V → Hp → VK → Prop) (f : List Nat → D → Option D) : Prop := ∀ (H0 H : Hp) (x : List Nat) (y : V) (dy dz : D) (Q : VK), Same H0 H → x.length ≤ lim → f x dy = some dz → Dat1 c H0 H dy y → Out c H0 H dz Q → r (.str (sS x)) [y] H Q
theorem se_sm1 {id : String} {name : Str} {apos : Pos} {r : V → List V → Hp → VK → Prop} {f : List Nat → D → Option D} (slot : Slot "str" name id) (ty : typeOf (.builtin id) = pure (.type "method_descriptor")) (rule : MtR X id r) (h : SMt1 (cn X t) r f) (ho : SE X t W o mo) (ha : SE X t W a ma)
    (hs : starEach [a] X.env = [(false, eval a X.env)] := by rfl) (hbase : attributeBase o name X.env (eval o X.env) = eval o X.env := by rfl) (hline : (apos.endLine == pos.line) = true := by rfl) :
    SE X t W (.Call (.Attribute o name apos) [a] [] pos) (mSm1 f mo ma) := by
  refine PE.imp (pe_m1 slot ty rule ho ha hs hbase hline) fun σ H Q ⟨e, H0, Fr, as, rp, po⟩ => ?_
  refine ⟨e, H0, Fr, as, rp, po.bind fun ra e1 v H1 H' s rr po => ?_⟩
  match q : peek ra e1, po with
  | some (.str x), po =>
    obtain ⟨H2, as, s2, rp, hd⟩ := RpR.peek rr q
    obtain ⟨rfl, hl⟩ := hd
    refine ⟨⟨_, rfl⟩, e1, H2, Fr, as, rp, (po.mono s2).bind fun rb e2 w H3 H'' s3 rr2 po => ?_⟩
    obtain ⟨dy, q2, po⟩ := po.ofO
    obtain ⟨dz, q3, po⟩ := po.ofO
    obtain ⟨H4, as, s4, rp, hd⟩ := RpR.peek rr2 q2
    exact h H4 H'' x w dy dz Q rp.sub hl q3 hd ((po.mono s4).out rp)
theorem joinN_eq (s : List Nat) : ∀ l : List (List Nat), joinN s l = TL.joinL s l
  | [] => rfl
  | [_] => rfl
  | p :: q :: r => by
    show p ++ (s ++ joinN s (q :: r)) = p ++ (s ++ TL.joinL s (q :: r))
    rw [joinN_eq s (q :: r)]
theorem strsOf_vals {c : Cn} {H : Hp} : ∀ {l : List D} {xs : List (List Nat)} {vs : List V}, strsOf l = some xs → Dats c H l vs → vs = (xs.map sS).map V.str
  | [], xs, vs, e, h => by
    cases e
    exact h
  | d :: l, xs, vs, e, h => by
    match d, e with
    | .str x, e =>
      have e : (strsOf l).map (x :: ·) = some xs := e
      obtain ⟨ys, e1, rfl⟩ := Option.map_eq_some_iff.mp e
      obtain ⟨v, r, rfl, ⟨rfl, _⟩, h3⟩ := h
      rw [strsOf_vals e1 h3]
      rfl
theorem lens_sS : ∀ xs : List (List Nat), (xs.map sS).map (·.length) = xs.map List.length
  | [] => rfl
  | x :: xs => by
    rw [List.map_cons, List.map_cons, List.map_cons, lens_sS xs]
    rfl
theorem join_sS (s : List Nat) (xs : List (List Nat)) : Txt.join (sS s) (xs.map sS) = sS (joinN s xs) := by
  rw [joinN_eq]
  exact SX.join_S s xs
theorem joinN_len (s : List Nat) : ∀ xs : List (List Nat), (joinN s xs).length ≤ (xs.map List.length).sum + xs.length * s.length
  | [] => Nat.zero_le _
  | [p] => by simp [joinN]
  | p :: q :: r => by
    have := joinN_len s (q :: r)
    simp only [joinN, List.length_append, List.map_cons, List.sum_cons, List.length_cons] at this ⊢
    have e : (r.length + 1 + 1) * s.length = (r.length + 1) * s.length + s.length := by rw [Nat.add_mul, Nat.one_mul]
    omega
theorem sm_join {c : Cn} : SMt1 c (fun x xs H Q => ∃ a p, ∃ ys : List Str, x = .str a ∧ xs = [.ref p] ∧ (SqL c.K H p (ys.map V.str) ∨ SqT c.K H p (ys.map V.str)) ∧ (ys.map (·.length)).sum + ys.length * a.length ≤ 16777216 ∧ Q (.str (Txt.join a ys)) H)
    (fun x y => joinD (.str x) y) := by
  intro H0 H x y dy dz Q s hl e hd o
  match dy, e with
  | .lst l, e =>
    obtain ⟨xs, e1, e⟩ := Option.bind_eq_some_iff.mp (show ((strsOf l).bind fun xs => if (xs.map List.length).sum + xs.length * x.length ≤ lim then some (D.str (joinN x xs)) else none) = some dz from e)
    by_cases h : (xs.map List.length).sum + xs.length * x.length ≤ lim
    · rw [if_pos h] at e
      cases e
      obtain ⟨_, q, vs, rfl, h2, h3⟩ := hd
      have ev := strsOf_vals e1 h3
      subst ev
      refine ⟨sS x, q, xs.map sS, rfl, rfl, .inl h2, ?_, ?_⟩
      · rw [lens_sS, List.length_map, sS_len]; exact h
      · rw [join_sS]
        exact o.str (Nat.le_trans (joinN_len x xs) h)
    · rw [if_neg h] at e
      cases e
  | .tup l, e =>
    obtain ⟨xs, e1, e⟩ := Option.bind_eq_some_iff.mp (show ((strsOf l).bind fun xs => if (xs.map List.length).sum + xs.length * x.length ≤ lim then some (D.str (joinN x xs)) else none) = some dz from e)
    by_cases h : (xs.map List.length).sum + xs.length * x.length ≤ lim
    · rw [if_pos h] at e
      cases e
      obtain ⟨_, q, vs, rfl, h2, h3⟩ := hd
      have ev := strsOf_vals e1 h3
      subst ev
      refine ⟨sS x, q, xs.map sS, rfl, rfl, .inr h2, ?_, ?_⟩
      · rw [lens_sS, List.length_map, sS_len]; exact h
      · rw [join_sS]
        exact o.str (Nat.le_trans (joinN_len x xs) h)
    · rw [if_neg h] at e
      cases e
/-! ### slices -/
def rrPt (c : Cn) : Hp → St → Hp → Hp → Env → Option Int → Option Int → Prop := fun Fr σ H1 H' e b a => b = a ∧ ∃ as, Rp c H1 Fr H' σ e as
abbrev SPt (X : Cx) (t : Tb) (W : WX) (e : Option Expr) (m : Option (M R)) : Prop := PO X e (tG t (cn X t) W (rrPt (cn X t)) (mPt m))
theorem PO.imp {X : Cx} {e : Option Expr} {u u' : TO} (h : PO X e u) (k : ∀ σ H Q, u' σ H Q → u σ H Q) : PO X e u' := ⟨fun pins s σ H Q I q => h.run pins s σ H Q I (k _ _ _ q)⟩
theorem spt_none : SPt X t W none none := PO.imp po_none fun σ H Q ⟨e, H0, Fr, as, rp, po⟩ => po none H0 H (Same.refl _) ⟨rfl, as, rp⟩
theorem spt_some (h : SE X t W a ma) : SPt X t W (some a) (some ma) := by
  refine PO.imp (po_some h) fun σ H Q ⟨e, H0, Fr, as, rp, po⟩ => ?_
  refine ⟨e, H0, Fr, as, rp, Po.bind (f := fun r e1 => match peek r e1 with
    | some (.int i) => .ok (some i) e1
    | _ => .bad) po fun ra e1 v H1 H' s rr po => ?_⟩
  match q : peek ra e1, po with
  | some (.int i), po =>
    obtain ⟨H2, as, s2, rp, hd⟩ := RpR.peek rr q
    exact ⟨i, hd, Po.mono s2 po (some i) H2 H' (Same.refl _) ⟨rfl, as, rp⟩⟩
def VSl (c : Cn) (r : V → Option Int → Option Int → Hp → VK → Prop) (f : D → Option Int → Option Int → Option D) : Prop := ∀ (H0 H : Hp) (x : V) (dx dz : D) (lo hi : Option Int) (Q : VK), Same H0 H → f dx lo hi = some dz → Dat1 c H0 H dx x → Out c H0 H dz Q → r x lo hi H Q
def LSl (c : Cn) (r : V → Option Int → Option Int → Hp → VK → Prop) (f : D → Option Int → Option Int → Option (List D)) : Prop := ∀ (H0 H : Hp) (x : V) (dx : D) (l : List D) (lo hi : Option Int) (Q : VK), Same H0 H → f dx lo hi = some l → Dat1 c H0 H dx x → NewL c H0 H l Q → r x lo hi H Q
section
variable {lo hi : Option Expr} {ml mh : Option (M R)} {p2 : Pos} {r : V → Option Int → Option Int → Hp → VK → Prop}
theorem se_sl {f : D → Option Int → Option Int → Option D} (hr : SlR X r) (h : VSl (cn X t) r f) (ha : SE X t W a ma) (hl : SPt X t W lo ml) (hh : SPt X t W hi mh) : SE X t W (.Subscript a (.Slice lo hi none p2) pos) (mSl f ma ml mh) := by
  refine PE.imp (pe_slice hr ha hl hh) fun σ H Q ⟨e, H0, Fr, as, rp, po⟩ => ?_
  refine ⟨e, H0, Fr, as, rp, po.bind fun ra e1 v H1 H' s rr po => ?_⟩
  obtain ⟨H2, as, s2, rp, kp⟩ := RpR.keep rr
  refine ⟨e1, H2, Fr, as, rp, (po.mono s2).bind fun l e2 l' H3 H'' s3 ⟨e4, as, rp⟩ po => ?_⟩
  subst e4
  refine ⟨e2, H3, Fr, as, rp, po.bind fun h' e3 h2 H4 H5 s4 ⟨e4, as, rp⟩ po => ?_⟩
  subst e4
  obtain ⟨dx, q1, po⟩ := po.ofO
  obtain ⟨dz, q2, po⟩ := po.ofO
  exact h H4 H5 v dx dz _ _ Q rp.sub q2 ((kp.mono (s3.trans s4)).peek rp q1) (po.out rp)
theorem se_slL {f : D → Option Int → Option Int → Option (List D)} (hr : SlR X r) (h : LSl (cn X t) r f) (ha : SE X t W a ma) (hl : SPt X t W lo ml) (hh : SPt X t W hi mh) : SE X t W (.Subscript a (.Slice lo hi none p2) pos) (mSlL f ma ml mh) := by
  refine PE.imp (pe_slice hr ha hl hh) fun σ H Q ⟨e, H0, Fr, as, rp, po⟩ => ?_
  refine ⟨e, H0, Fr, as, rp, po.bind fun ra e1 v H1 H' s rr po => ?_⟩
  obtain ⟨H2, as, s2, rp, kp⟩ := RpR.keep rr
  refine ⟨e1, H2, Fr, as, rp, (po.mono s2).bind fun l e2 l' H3 H'' s3 ⟨e4, as, rp⟩ po => ?_⟩
  subst e4
  refine ⟨e2, H3, Fr, as, rp, po.bind fun h' e3 h2 H4 H5 s4 ⟨e4, as, rp⟩ po => ?_⟩
  subst e4
  obtain ⟨dx, q1, po⟩ := po.ofO
  obtain ⟨dz, q2, po⟩ := po.ofO
  exact h H4 H5 v dx dz _ _ Q rp.sub q2 ((kp.mono (s3.trans s4)).peek rp q1) (po.newL rp)
end
theorem cut_len {α : Type} (l : List α) (lo hi : Option Int) : (cut l lo hi).length ≤ l.length := by
  unfold cut
  rw [List.length_take, List.length_drop]
  omega
theorem sl_S {c : Cn} : VSl c rSlS slS := by
  intro H0 H x dx dz lo hi Q s e hd o
  match dx, e with
  | .str z, e =>
    cases e
    obtain ⟨rfl, hl⟩ := hd
    refine ⟨sS z, rfl, by rw [sS_len, sizeLine_lim]; exact hl, ?_⟩
    exact o.str (Nat.le_trans (cut_len z lo hi) hl)
theorem Dats.cut {c : Cn} {H : Hp} {l : List D} {vs : List V} (h : Dats c H l vs) (lo hi : Option Int) : Dats c H (cut l lo hi) (cutV vs lo hi) := by
  have := Dats.take (HT.sIx vs.length vs.length hi - HT.sIx vs.length 0 lo) (Dats.drop (HT.sIx vs.length 0 lo) h)
  unfold cutV
  rw [h.len] at this ⊢
  exact this
theorem sl_L {c : Cn} : LSl c (rSlL c.K) slL := by
  intro H0 H x dx l lo hi Q s e hd nl
  match dx, e with
  | .lst m, e =>
    cases e
    obtain ⟨hl, a, vs, rfl, h2, h3⟩ := hd
    exact ⟨a, vs, rfl, h2, fun p hp => nl p _ hp (Nat.le_trans (cut_len m lo hi) hl) (h3.cut lo hi)⟩
end
end F
end

section
set_option Elab.async false
set_option linter.all false
set_option autoImplicit false
set_option maxRecDepth 100000
/-! F layer, part L: dicts, isinstance, match, sorted. -/
namespace F
open PySem PySem.Spec PyProof.Rows L2
section
variable {c : Cn} {H0 Fr H : Hp} {σ : St} {e : Env} {as : Nat → List Addr}
theorem Rp.own1 {p : Addr} {y x : HO} {o : O} (r : Rp c H0 (upd Fr p y) H σ e as) (hF : Fr p = none) (h : OwnR c H0 (upd H p x) o (.ref p) [p]) : Rp1 c H0 Fr (upd H p x) σ e (.ref p) o := by
  refine ⟨[p], as, h, by simp, fun a ha => ?_, ?_⟩
  · rw [List.mem_singleton.mp ha]
    exact ⟨(r.fr p y upd_same).2, hF⟩
  · have e1 : addF Fr (upd H p x) [p] = upd (upd Fr p y) p x := by
      funext b
      by_cases z : b = p
      · subst z
        rw [addF_in (List.mem_singleton_self b), upd_same, upd_same]
      · rw [addF_out (by simpa using z), upd_ne z, upd_ne z]
    rw [e1]
    exact r.frUpd upd_same
end
section
variable {X : Cx} {t : Tb} {W : WX} {o a b : Expr} {mo ma mb : M R} {pos p : Pos}
/-! ### {k: v, ..} -/
def rrKv (c : Cn) : Hp → St → Hp → Hp → Env → List (V × V) → List (Ky × D) → Prop := fun Fr σ H1 H' e ps l => (∃ as, Rp c H1 Fr H' σ e as) ∧ ∃ kvs : List (Key × V), ps = kvs.map (fun kv => (kV kv.1, kv.2)) ∧ DatK c H1 l kvs
def SDc (X : Cx) (t : Tb) (W : WX) (pos : Pos) (ks : List (Option Expr)) (vs : List Expr) (kms : List (Ky × M R)) : Prop := ∃ trs, PPs X pos ks vs trs ∧ ∀ σ H Q, tG t (cn X t) W (rrKv (cn X t)) (mDvs kms) σ H Q → tPairs trs σ H Q
theorem sdc_nil : SDc X t W pos [] [] [] := ⟨[], pps_nil, fun σ H Q ⟨e, H0, Fr, as, rp, po⟩ => po [] H0 H (Same.refl _) ⟨⟨as, rp⟩, [], rfl, rfl⟩⟩
theorem sdc_cons {ke : Expr} {k : Ky} {ks : List (Option Expr)} {vs : List Expr} {kms : List (Ky × M R)} (hk : PE X ke (tC (kV (kyK k)))) (ha : SE X t W a ma) (hr : SDc X t W pos ks vs kms) : SDc X t W pos (some ke :: ks) (a :: vs) ((k, ma) :: kms) := by
  obtain ⟨trs, h1, h2⟩ := hr
  refine ⟨_, pps_cons hk ha h1, fun σ H Q ⟨e, H0, Fr, as, rp, po⟩ => ?_⟩
  refine ⟨e, H0, Fr, as, rp, Po.bind (f := fun r e1 => andThen (leak r e1) fun d e2 => andThen (mDvs kms e2) fun ds e3 => .ok ((k, d) :: ds) e3) po fun ra e1 v H1 H' s rr po => ?_⟩
  obtain ⟨d, e2, H2, as, q, s2, rp, hd, po⟩ := po.leak rr
  refine h2 _ _ _ ⟨e2, H2, Fr, as, rp, po.bind fun ds e3 ps H3 H'' s3 ⟨rp3, kvs, e4, ks⟩ po => ?_⟩
  subst e4
  exact po.ret (Same.refl _) ⟨rp3, (kyK k, v) :: kvs, rfl, v, kvs, rfl, Dat.mono s3 _ _ hd, ks⟩
theorem kyK_inj {k q : Ky} (h : kyK k = kyK q) : k = q := by
  cases k with
  | i m =>
    cases q with
    | i n => cases h; rfl
    | s y => cases h
  | s x =>
    cases q with
    | i n => cases h
    | s y =>
      have h1 : sS x = sS y := Sum.inr.inj h
      rw [SX.S_inj h1]
theorem DatK.keys {c : Cn} {H : Hp} : ∀ {l : List (Ky × D)} {kvs : List (Key × V)}, DatK c H l kvs → kvs.map (·.1) = (l.map (·.1)).map kyK
  | [], _, h => by
    have h : _ = [] := h
    subst h
    rfl
  | (k, d) :: r, _, ⟨v, s, h1, h2, h3⟩ => by
    subst h1
    simp only [List.map_cons]
    rw [DatK.keys h3]
theorem merge_nodup : ∀ (kvs acc : List (Key × V)), (acc ++ kvs).map (·.1) |>.Nodup → mergeK acc kvs = acc ++ kvs
  | [], acc, _ => by simp [mergeK]
  | kv :: kvs, acc, h => by
    have hno : (acc.any fun p => decide (p.1 = kv.1)) = false := by
      rw [List.any_eq_false]
      intro p hp
      rw [decide_eq_true_eq]
      intro e
      rw [List.map_append, List.map_cons, List.nodup_append] at h
      exact h.2.2 _ (List.mem_map_of_mem hp) _ (List.mem_cons_self ..) e
    have e1 : putK acc kv.1 kv.2 = acc ++ [kv] := by
      unfold putK
      rw [hno]
      rfl
    show mergeK (putK acc kv.1 kv.2) kvs = _
    rw [e1, merge_nodup kvs (acc ++ [kv]) (by rw [List.append_assoc]; exact h), List.append_assoc]
    rfl
theorem mDvs_keys : ∀ {kms : List (Ky × M R)} {e e' : Env} {l : List (Ky × D)}, mDvs kms e = .ok l e' → l.map (·.1) = kms.map (·.1)
  | [], _, _, _, h => by
    cases h
    rfl
  | (k, m) :: kms, e, e', l, h => by
    have h : (andThen (m e) fun r e1 => andThen (leak r e1) fun d e2 => andThen (mDvs kms e2) fun ds e3 => .ok ((k, d) :: ds) e3) = .ok l e' := h
    cases q : m e with
    | ok r e1 =>
      rw [q] at h
      have h : (andThen (leak r e1) fun d e2 => andThen (mDvs kms e2) fun ds e3 => .ok ((k, d) :: ds) e3) = .ok l e' := h
      cases q2 : leak r e1 with
      | ok d e2 =>
        rw [q2] at h
        have h : (andThen (mDvs kms e2) fun ds e3 => .ok ((k, d) :: ds) e3) = .ok l e' := h
        cases q3 : mDvs kms e2 with
        | ok ds e3 =>
          rw [q3] at h
          cases h
          simp only [List.map_cons]
          rw [mDvs_keys q3]
        | ex => rw [q3] at h; cases h
        | bad => rw [q3] at h; cases h
      | ex => rw [q2] at h; cases h
      | bad => rw [q2] at h; cases h
    | ex => rw [q] at h; cases h
    | bad => rw [q] at h; cases h
theorem se_dct {ks : List (Option Expr)} {vs : List Expr} {kms : List (Ky × M R)} (h : SDc X t W pos ks vs kms) (hall : ks.all (·.isSome) = true := by rfl) (hl : ks.length = vs.length := by rfl) (h0 : ks ≠ [] := by exact List.cons_ne_nil _ _) (h15 : ks.length ≤ 15 := by decide)
    (hnd : (kms.map (·.1)).Nodup := by decide) (hlen : kms.length ≤ 15 := by decide) : SE X t W (.Dict ks vs pos) (mDct kms) := by
  obtain ⟨trs, h1, h2⟩ := h
  refine PE.imp (pe_disp h1 hall hl h0 h15) fun σ H Q ⟨e, H0, Fr, as, rp, po⟩ p hp => h2 _ _ _ ?_
  have hF : Fr p = none := by
    cases q : Fr p with
    | none => rfl
    | some y => rw [(rp.fr p y q).1] at hp; cases hp
  have po : Po t (cn X t) W Fr σ H0 (rrR (cn X t) Fr σ) Q (andThen (mDvs kms e) fun l e1 => .ok (.ow (.fd l)) e1) := po
  cases q0 : mDvs kms e with
  | ok l e1 =>
    rw [q0] at po
    refine ⟨e, H0, upd Fr p (.dK []), as, rp.frNew hp, ?_⟩
    rw [q0]
    rintro ps H1 H' s ⟨⟨as1, rp1⟩, kvs, rfl, dk⟩
    have hk := mDvs_keys q0
    have hkl : kvs.length = kms.length := by
      have := congrArg List.length (dk.keys.trans (congrArg (List.map kyK) hk))
      simpa using this
    have hnd2 : (kvs.map (·.1)).Nodup := by
      rw [dk.keys, hk]
      exact List.Pairwise.map _ (fun a b h z => h (kyK_inj z)) hnd
    have hll : l.length ≤ lim := by
      have := congrArg List.length hk
      simp only [List.length_map] at this
      rw [this]
      exact Nat.le_trans hlen (by decide)
    refine ⟨(rp1.fr p _ upd_same).1, kvs, rfl, by rw [hkl]; exact hlen, ?_⟩
    have em : mergeK [] kvs = kvs := merge_nodup kvs [] hnd2
    rw [em]
    refine po (.ref p) H1 _ s (rp1.own1 hF ⟨hll, p, kvs, rfl, rfl, upd_same, dk⟩)
  | ex k' d e1 =>
    rw [q0] at po
    refine ⟨e, H0, upd Fr p (.dK []), as, rp.frNew hp, ?_⟩
    rw [q0]
    exact fun H2 H' as cls dx s rp xa => po H2 H' as cls dx s (rp.less fun b o hb => by
      by_cases z : b = p
      · rw [z, hF] at hb; cases hb
      · rw [upd_ne z]; exact hb) xa
  | bad =>
    rw [q0] at po
    exact po.elim
/-! ### d[k] -/
def rDGet : R2 := fun x y H Q => ∃ a v, x = .ref a ∧ DGet H a y (some v) ∧ Q v H
theorem lookK_val {c : Cn} {H : Hp} {q : Ky} {d : D} : ∀ {l : List (Ky × D)} {kvs : List (Key × V)}, DatK c H l kvs → lookK l q = some d → ∃ v, valV kvs (kyK q) = some v ∧ Dat c H d v
  | [], _, _, e => by cases e
  | (k, d') :: r, _, ⟨v, s, h1, h2, h3⟩, e => by
    subst h1
    have e : (if q = k then some d' else lookK r q) = some d := e
    by_cases z : q = k
    · rw [if_pos z] at e
      cases e
      exact ⟨v, valV_pos (by rw [z]), h2⟩
    · rw [if_neg z] at e
      obtain ⟨w, h4, h5⟩ := lookK_val h3 e
      exact ⟨w, (valV_neg fun y => z (kyK_inj y).symm).trans h4, h5⟩
theorem keyD_kV {c : Cn} {H0 H : Hp} {d : D} {q : Ky} {v : V} (e : keyD d = some q) (h : Dat1 c H0 H d v) : v = kV (kyK q) := by
  cases d with
  | int i =>
    cases e
    exact h
  | str x =>
    cases e
    exact h.1
  | _ => cases e
theorem v_getK {c : Cn} : VOp2 c rDGet getKD := by
  intro H0 H x y dx dy dz Q s e hx hy o
  match dx, e with
  | .dct l, e =>
    obtain ⟨q, e1, e2⟩ := Option.bind_eq_some_iff.mp (show (keyD dy).bind (lookK l) = some dz from e)
    obtain ⟨hl, a, kvs, rfl, h2, h3⟩ := hx
    obtain ⟨w, h4, h5⟩ := lookK_val h3 e2
    refine ⟨a, w, rfl, ?_, o.1 w h5⟩
    rw [keyD_kV e1 hy, ← h4]
    exact .inl ⟨kvs, _, h2, rfl, rfl⟩
theorem se_dget (hu : X.A.units + 1 < cLine) (ha : SE X t W a ma) (hb : SE X t W b mb) (hs : NoSl b) : SE X t W (.Subscript a b pos) (mOp2 getKD ma mb) :=
  PE.imp (pe_dget hu ha hb hs) fun σ H Q q => tI_op2 (r := rDGet) v_getK q
/-! ### a written table of texts -/
def KTab (X : Cx) (t : Tb) (a : Addr) (l : List (List Nat × D)) : Prop := ∀ (x : List Nat) (d : D), l.lookup x = some d → ∃ v, KDct X.K X.w a (sS x) v ∧ ∀ H, Dat (cn X t) H d v
theorem se_tab {n : Addr} {l : List (List Nat × D)} (hp : PE X a (tC (.ref n))) (ht : KTab X t n l) (hb : SE X t W b mb) (hs : PlainIx b) : SE X t W (.Subscript a b pos) (mOp1 (tabD l) mb) := by
  refine PE.imp (pe_ix ix_kdict hp hb hs) fun σ H Q q => tI_op1 (r := fun y H Q => rIxD X.K X.w (.ref n) y H Q) ?_ q
  intro H0 H x dx dz Q s e hx o
  match dx, e with
  | .str z, e =>
    obtain ⟨rfl, hl⟩ := hx
    obtain ⟨v, h1, h2⟩ := ht z dz e
    exact ⟨n, sS z, v, rfl, rfl, h1, o.1 v (h2 H0)⟩
/-! ### isinstance with a built-in class -/
def tyN : Ty → String
  | .str => "str"
  | .int => "int"
  | .bool => "bool"
  | .list => "list"
  | .tuple => "tuple"
  | .dict => "dict"
theorem sqT_ty {K : PySem.W.Frag} {H : Hp} {a : Addr} {vs : List V} (h : SqT K H a vs) : TyX K H (.ref a) (.type "tuple") := by
  rcases h with (h | ⟨o, h⟩) | ⟨o, its, n, h1, h2, _⟩
  · exact .base (.tup h)
  · exact .fTuple h
  · exact .kTuple h1 h2
theorem rd_ty {K : PySem.W.Frag} {H : Hp} {a : Addr} {vs : List V} (h : SqL K H a vs) : TyX K H (.ref a) (.type "list") := by
  rcases h with (h | ⟨o, h⟩) | ⟨o, its, n, h1, h2, _⟩
  · exact .base (.lst h)
  · exact .base (.frz h)
  · exact .kList h1 h2
def dTy : D → Option String
  | .non => some "NoneType"
  | .bl _ => some "bool"
  | .int _ => some "int"
  | .str _ => some "str"
  | .tup _ => some "tuple"
  | .lst _ => some "list"
  | .dct _ => some "dict"
  | .obj _ _ => none
  | .ex _ _ => none
theorem dTy_ty {c : Cn} {H0 H : Hp} {d : D} {v : V} {n : String} (e : dTy d = some n) (h : Dat1 c H0 H d v) : TyX c.K H v (.type n) := by
  cases d with
  | non => cases e; cases h; exact .base .non
  | bl b => cases e; cases h; exact .base (.bl b)
  | int i => cases e; cases h; exact .base (.int i)
  | str x => cases e; obtain ⟨rfl, _⟩ := h; exact .base (.str _)
  | tup l => cases e; obtain ⟨_, a, vs, rfl, h, _⟩ := h; exact sqT_ty h
  | lst l => cases e; obtain ⟨_, a, vs, rfl, h, _⟩ := h; exact rd_ty h
  | dct l =>
    cases e
    obtain ⟨_, a, vs, rfl, h, _⟩ := h
    rcases h with h | ⟨o, h⟩
    · exact .base (.dK h)
    · exact .fDict h
  | obj k l => cases e
  | ex k d => cases e
theorem kit_all : (["NoneType", "bool", "int", "str", "tuple", "list", "dict"].all fun a => ["str", "int", "bool", "list", "tuple", "dict"].all fun b =>
    kitB a b == some (a == b || (a == "bool" && b == "int"))) = true := by decide +kernel
theorem kit_is (ty : Ty) (d : D) {b : Bool} (e : isTy ty d = some b) : ∃ n, dTy d = some n ∧ kitB n (tyN ty) = some b := by
  have hk := kit_all
  simp only [List.all_cons, List.all_nil, Bool.and_eq_true, beq_iff_eq, Bool.and_true] at hk
  cases d <;> cases ty <;> first | (cases e; done) | (refine ⟨_, rfl, ?_⟩; simp only [isTy, Option.some.injEq] at e; subst e; simp only [tyN, hk]; rfl)
theorem se_isi {x y : Str} {py : Pos} {ty : Ty} (hg : Gl X x) (hm : X.mg x = none) (hv : bootBuiltins x = some (.builtin "isinstance")) (hgy : Gl X y) (hmy : X.mg y = none) (hvy : bootBuiltins y = some (.type (tyN ty))) (ha : SE X t W a ma)
    (hn : x ≠ "__name__" := by decide) (hdb : (x == ("__debug__" : Str)) = false := by decide) (hny : y ≠ "__name__" := by decide) (hdy : (y == ("__debug__" : Str)) = false := by decide)
    (he : starEach [a, .Name y py] X.env = (false, eval a X.env) :: starEach [.Name y py] X.env := by rfl) (he2 : starEach [.Name y py] X.env = (false, eval (.Name y py) X.env) :: starEach [] X.env := by rfl) (hpl : (backTo pos (starEach [.Name y py] X.env)).any (·.1) = false := by rfl) :
    SE X t W (.Call (.Name x p) [a, .Name y py] [] pos) (mOp1 (isiD ty) ma) := by
  refine PE.imp (pe_callB call_isi hg hm hv (pa_cons ha (pa_cons (pe_bltn (v := .ty (tyN ty)) hgy hmy hvy rfl hny hdy) pa_nil he2) he) hn hdb he hpl) fun σ H Q q => ?_
  refine tI_op1 (r := fun v H Q => rIsi X.K [v, .ty (tyN ty)] H Q) ?_ q
  intro H0 H x dx dz Q s e hx o
  obtain ⟨b, e1, rfl⟩ := Option.map_eq_some_iff.mp (show (isTy ty dx).map D.bl = some dz from e)
  obtain ⟨n, h1, h2⟩ := kit_is ty dx e1
  exact ⟨x, .ty (tyN ty), .type n, .type (tyN ty), b, rfl, .ty _, dTy_ty h1 hx, kit_ty h2, o.bl⟩
end
end F
end

section
set_option Elab.async false
set_option linter.all false
set_option autoImplicit false
set_option maxRecDepth 100000
/-! F layer, part M: comprehensions of two clauses; a = b = e; match; sorted. -/
namespace F
open PySem PySem.Spec PyProof.Rows L2
/-! ### two clauses -/
/-- as lcL, the length looked at -/
def lcK (own : List Nat) (t : Tg) (c : M Bool) (v : M R) : List D → List D → Env → Rs (List D)
  | [], acc, e => .ok acc e
  | d :: ds, acc, e => match t.put d e with
    | some e1 => (match c e1 with
      | .ok true e2 => (match v e2 with
        | .ok r e3 => (match leak r e3 with
          | .ok x e4 => if acc.length < lim then lcK own t c v ds (acc ++ [x]) (wipeE e4 own) else .bad
          | _ => .bad)
        | _ => .bad)
      | .ok false e2 => lcK own t c v ds acc (wipeE e2 own)
      | _ => .bad)
    | none => .bad
def lcL2 (own : List Nat) (t : Tg) (c : M Bool) (own1 : List Nat) (t1 : Tg) (it1 : M (List D)) (c1 : M Bool) (v : M R) : List D → List D → Env → Rs (List D)
  | [], acc, e => .ok acc e
  | d :: ds, acc, e => match t.put d e with
    | some e1 => (match c e1 with
      | .ok true e2 => (match it1 e2 with
        | .ok items e3 => (match lcK own1 t1 c1 v items acc (wipeE e3 own1) with
          | .ok acc' e4 => lcL2 own t c own1 t1 it1 c1 v ds acc' (wipeE e4 own)
          | _ => .bad)
        | _ => .bad)
      | .ok false e2 => lcL2 own t c own1 t1 it1 c1 v ds acc (wipeE e2 own)
      | _ => .bad)
    | none => .bad
def mLc2 (own : List Nat) (t : Tg) (it : M (List D)) (c : M Bool) (own1 : List Nat) (t1 : Tg) (it1 : M (List D)) (c1 : M Bool) (v : M R) : M R := fun e => andThen (it e) fun ds e1 => lcEnd e1 own (lcL2 own t c own1 t1 it1 c1 v ds [] (wipeE e1 own))
theorem it_gen {J : It} {n : Nat} {G : Hp → Prop} {Y : Nat → Hp → V → Hp → Prop} (w : Walk J n G Y) {B : (Hp → Prop) → V → Hp → Prop} {H1 : Hp} {Qd : Hp → Prop} (Pv : Nat → Hp → Prop) (h0 : Pv 0 H1) (hG : ∀ i H, i ≤ n → Pv i H → G H)
    (hs : ∀ i x H H', i < n → Pv i H → Y i H x H' → B (Pv (i + 1)) x H') (hd : ∀ H, Pv n H → Qd H) :
    ∃ W : Nat → Nat → Hp → Prop, (∃ m, W 0 m H1) ∧ ∀ i m H, W i m H →
      (J.stop i H ∧ Qd H) ∨ (J.go i H ∧ ∃ Nx : Hp → Prop, (∀ H', Nx H' → ∃ m', m' < m ∧ W (i + 1) m' H') ∧ ∀ x H', J.yld i H x H' → B Nx x H') := by
  refine ⟨fun i m H => m = n - i ∧ i ≤ n ∧ Pv i H, ⟨n, by simp, Nat.zero_le _, h0⟩, ?_⟩
  rintro i m H ⟨rfl, hi, p⟩
  have q := hG i H hi p
  by_cases hlt : i < n
  · refine .inr ⟨w.goes i H hlt q, Pv (i + 1), fun H' p' => ⟨n - (i + 1), by omega, rfl, hlt, p'⟩, fun x H' y => hs i x H H' hlt p (w.yields i H x H' hlt q y)⟩
  · have e : i = n := by omega
    subst e
    exact .inl ⟨w.stops H q, hd H p⟩
theorem wipe_sub {σ : St} {vs own : List Nat} (h : ∀ i ∈ vs, i ∈ own) : L2.wipe (L2.wipe σ vs) own = L2.wipe σ own := by
  apply List.ext_getElem?
  intro i
  by_cases hi : i ∈ own
  · by_cases hlt : i < σ.length
    · rw [wipe_in hi (by rw [wipe_length]; exact hlt), wipe_in hi hlt]
    · rw [List.getElem?_eq_none (by rw [wipe_length, wipe_length]; omega), List.getElem?_eq_none (by rw [wipe_length]; omega)]
  · rw [wipe_get hi, wipe_get hi, wipe_get fun z => hi (h i z)]
section
variable {X : Cx} {t : Tb} {W : WX}
theorem lc2_read {mi mi1 : M (List D)} {own own1 : List Nat} {tg tg1 : Tg} {mc mc1 : M Bool} {mv : M R} {σ : St} {H : Hp} {Q : VK} (hsub : ∀ i ∈ own1, i ∈ own) (q : tI X t W (mLc2 own tg mi mc own1 tg1 mi1 mc1 mv) σ H Q) :
    tLc2 (tIt t (cn X t) W mi) (tGt (cn X t) (fun i => !own.contains i) tg) (tG t (cn X t) W0 (rrB (cn X t)) mc) (tIt t (cn X t) W0 mi1) (tGt (cn X t) (fun i => !own1.contains i) tg1) (tG t (cn X t) W0 (rrB (cn X t)) mc1) (tI X t W0 mv) own own1 σ H Q := by
  obtain ⟨e, H0, Fr, as, rp, po⟩ := q
  refine ⟨e, H0, Fr, as, rp, po.bind fun items e1 J H1 H' s ⟨⟨as1, rp1⟩, G, Y, wk, hG, hY⟩ po => ?_⟩
  intro L hL
  have hFL : Fr L = none := by
    cases z : Fr L with
    | none => rfl
    | some y =>
      rw [(rp1.fr L y z).1] at hL
      cases hL
  have old : ∀ i d, slot e1 i = some (.sh d) → ∃ v, σ[i]? = some (some v) ∧ Dat (cn X t) H1 d v := fun i d z => by
    obtain ⟨v, h1, h2⟩ := rp1.own i _ z
    exact ⟨v, h1, h2.2⟩
  obtain ⟨as0, rp0⟩ := rp1.wipe own
  have hz : sizeLine = lim := sizeLine_lim
  refine it_gen (B := fun Nx x H' => tGt (cn X t) (fun i => !own.contains i) tg x (L2.wipe σ own) H' fun σ2 H2 => L2.wipe σ2 own = L2.wipe σ own ∧ tG t (cn X t) W0 (rrB (cn X t)) mc σ2 H2 fun b H3 =>
    if b = true then tIt t (cn X t) W0 mi1 σ2 H3 fun J1 H4 => ∃ W1 : Nat → Nat → Hp → Prop, (∃ m, W1 0 m H4) ∧ ∀ j k H, W1 j k H →
      (J1.stop j H ∧ Nx H) ∨ (J1.go j H ∧ ∃ Nx1 : Hp → Prop, (∀ H', Nx1 H' → ∃ k', k' < k ∧ W1 (j + 1) k' H') ∧ ∀ x H', J1.yld j H x H' → tGt (cn X t) (fun i => !own1.contains i) tg1 x (L2.wipe σ2 own1) H' fun σ3 H5 => L2.wipe σ3 own1 = L2.wipe σ2 own1 ∧ tG t (cn X t) W0 (rrB (cn X t)) mc1 σ3 H5 fun b H6 =>
        if b = true then tI X t W0 mv σ3 H6 fun y H7 => ∃ acc, H7 L = some (.lst acc) ∧ acc.length < sizeLine ∧ Nx1 (upd H7 L (.lst (acc ++ [y]))) else Nx1 H6)
    else Nx H3)
    wk (fun i H'' => ∃ (e' : Env) (H2 : Hp) (as' : Nat → List Addr) (acc : List D) (ws : List V), Same H1 H2 ∧ Rp (cn X t) H2 (upd Fr L (.lst ws)) H'' (L2.wipe σ own) e' as' ∧ Dats (cn X t) H2 acc ws ∧ acc.length ≤ lim ∧
      Po t (cn X t) W Fr σ H1 (rrR (cn X t) Fr σ) Q (lcEnd e1 own (lcL2 own tg mc own1 tg1 mi1 mc1 mv (items.drop i) acc e'))) ⟨wipeE e1 own, H1, as0, [], [], Same.refl _, rp0.frNew hL, rfl, Nat.zero_le _, by simpa using po⟩ (fun i H'' _ ⟨e', H2, as', acc, ws, s2, rp2, _⟩ => hG H2 H'' s2 rp2.sub) ?_ ?_
  · rintro i x Hi Hx hi ⟨e', H2, as', acc, ws, s2, rp2, hacc, hlen, po2⟩ y
    obtain ⟨d, H3, e3, s3, rp3, hd⟩ := wk_item (G := G) hY hi s2 rp2 y
    rw [drop_cons e3] at po2
    unfold lcL2 at po2
    cases q : tg.put d e' with
    | none =>
      rw [q] at po2
      exact po2.elim
    | some e2 =>
      rw [q] at po2
      dsimp only at po2
      refine ⟨e', H3, upd Fr L (.lst ws), as', d, e2, rp3, hd, q, fun σ2 as2 p3 rp4 => ?_⟩
      have hw := wipe_eq p3
      refine ⟨hw, e2, H3, upd Fr L (.lst ws), as2, rp4, ?_⟩
      cases qc : mc e2 with
      | bad =>
        rw [qc] at po2
        exact po2.elim
      | ex _ _ _ =>
        rw [qc] at po2
        exact po2.elim
      | ok b e4 =>
        rw [qc] at po2
        rintro b' H4 H4' s4 ⟨rfl, as4, rp4⟩
        cases b' with
        | false =>
          dsimp only at po2
          rw [if_neg Bool.false_ne_true]
          obtain ⟨as5, rp5⟩ := rp4.wipe own
          rw [hw] at rp5
          exact ⟨_, H4, as5, acc, ws, (s2.trans s3).trans s4, rp5, Dats.mono (s3.trans s4) _ _ hacc, hlen, po2⟩
        | true =>
          dsimp only at po2
          rw [if_pos rfl]
          refine ⟨e4, H4, upd Fr L (.lst ws), as4, rp4, ?_⟩
          cases qi : mi1 e4 with
          | bad =>
            rw [qi] at po2
            exact po2.elim
          | ex _ _ _ =>
            rw [qi] at po2
            exact po2.elim
          | ok items1 e5 =>
            rw [qi] at po2
            dsimp only at po2
            rintro J1 H5 H5' s5 ⟨⟨as5, rp5⟩, G1, Y1, wk1, hG1, hY1⟩
            obtain ⟨as6, rp6⟩ := rp5.wipe own1
            refine it_gen wk1 (B := fun Nx1 x H' => tGt (cn X t) (fun i => !own1.contains i) tg1 x (L2.wipe σ2 own1) H' fun σ3 H5 => L2.wipe σ3 own1 = L2.wipe σ2 own1 ∧ tG t (cn X t) W0 (rrB (cn X t)) mc1 σ3 H5 fun b H6 =>
                if b = true then tI X t W0 mv σ3 H6 fun y H7 => ∃ acc, H7 L = some (.lst acc) ∧ acc.length < sizeLine ∧ Nx1 (upd H7 L (.lst (acc ++ [y]))) else Nx1 H6)
              (fun j H'' => ∃ (e' : Env) (H2 : Hp) (as' : Nat → List Addr) (acc : List D) (ws : List V), Same H5 H2 ∧ Rp (cn X t) H2 (upd Fr L (.lst ws)) H'' (L2.wipe σ2 own1) e' as' ∧ Dats (cn X t) H2 acc ws ∧ acc.length ≤ lim ∧
                Po t (cn X t) W Fr σ H1 (rrR (cn X t) Fr σ) Q (lcEnd e1 own (match lcK own1 tg1 mc1 mv (items1.drop j) acc e' with
                  | .ok acc' e4 => lcL2 own tg mc own1 tg1 mi1 mc1 mv (items.drop (i + 1)) acc' (wipeE e4 own)
                  | _ => .bad))) ⟨wipeE e5 own1, H5, as6, acc, ws, Same.refl _, rp6, Dats.mono ((s3.trans s4).trans s5) _ _ hacc, hlen, by simpa using po2⟩ (fun j H'' _ ⟨e', H2, as', acc, ws, s2, rp2, _⟩ => hG1 H2 H'' s2 rp2.sub) ?_ ?_
            · rintro j x1 Hj Hx1 hj ⟨e7, H7, as7, acc7, ws7, s7, rp7, hacc7, hlen7, po7⟩ y1
              obtain ⟨d8, H8, e8, s8, rp8, hd8⟩ := wk_item (G := G1) hY1 hj s7 rp7 y1
              rw [drop_cons e8] at po7
              unfold lcK at po7
              cases q9 : tg1.put d8 e7 with
              | none =>
                rw [q9] at po7
                exact po7.elim
              | some e9 =>
                rw [q9] at po7
                dsimp only at po7
                refine ⟨e7, H8, upd Fr L (.lst ws7), as7, d8, e9, rp8, hd8, q9, fun σ3 as9 p9 rp9 => ?_⟩
                have hw1 := wipe_eq p9
                refine ⟨hw1, e9, H8, upd Fr L (.lst ws7), as9, rp9, ?_⟩
                cases qc1 : mc1 e9 with
                | bad =>
                  rw [qc1] at po7
                  exact po7.elim
                | ex _ _ _ =>
                  rw [qc1] at po7
                  exact po7.elim
                | ok b1 e10 =>
                  rw [qc1] at po7
                  rintro b' H10 H10' s10 ⟨rfl, as10, rp10⟩
                  cases b' with
                  | false =>
                    dsimp only at po7
                    rw [if_neg Bool.false_ne_true]
                    obtain ⟨as11, rp11⟩ := rp10.wipe own1
                    rw [hw1] at rp11
                    exact ⟨_, H10, as11, acc7, ws7, (s7.trans s8).trans s10, rp11, Dats.mono (s8.trans s10) _ _ hacc7, hlen7, po7⟩
                  | true =>
                    dsimp only at po7
                    rw [if_pos rfl]
                    refine ⟨e10, H10, upd Fr L (.lst ws7), as10, rp10, ?_⟩
                    cases qv : mv e10 with
                    | bad =>
                      rw [qv] at po7
                      exact po7.elim
                    | ex _ _ _ =>
                      rw [qv] at po7
                      exact po7.elim
                    | ok r e11 =>
                      rw [qv] at po7
                      dsimp only at po7
                      intro v H11 H11' s11 rr
                      rcases leak_ok (e' := e11) rr with ⟨d12, e12, ql⟩ | ql
                      · rw [ql] at po7
                        dsimp only at po7
                        by_cases hlt : acc7.length < lim
                        · rw [if_pos hlt] at po7
                          obtain ⟨H12, as12, s12, rp12, hd12⟩ := RpR.leak rr ql
                          have hL12 : H11' L = some (.lst ws7) := (rp12.fr L _ upd_same).1
                          have hwl : ws7.length = acc7.length := hacc7.len
                          refine ⟨ws7, hL12, by omega, ?_⟩
                          obtain ⟨as13, rp13⟩ := rp12.wipe own1
                          rw [hw1] at rp13
                          have rp14 := rp13.frUpd (p := L) (x := .lst (ws7 ++ [v])) upd_same
                          rw [upd_upd] at rp14
                          have s26 : Same H7 H12 := ((s8.trans s10).trans s11).trans s12
                          exact ⟨_, H12, as13, acc7 ++ [d12], ws7 ++ [v], s7.trans s26, rp14, Dats.app (Dats.mono s26 _ _ hacc7) (Dats.one hd12), by simp; omega, po7⟩
                        · rw [if_neg hlt] at po7
                          exact po7.elim
                      · rw [ql] at po7
                        exact po7.elim
            · rintro H'' ⟨e7, H7, as7, acc7, ws7, s7, rp7, hacc7, hlen7, po7⟩
              rw [List.drop_length] at po7
              have po7 : Po t (cn X t) W Fr σ H1 (rrR (cn X t) Fr σ) Q (lcEnd e1 own (lcL2 own tg mc own1 tg1 mi1 mc1 mv (items.drop (i + 1)) acc7 (wipeE e7 own))) := po7
              obtain ⟨as8, rp8⟩ := rp7.wipe own
              rw [wipe_sub hsub, hw] at rp8
              exact ⟨_, H7, as8, acc7, ws7, (((s2.trans s3).trans s4).trans s5).trans s7, rp8, hacc7, hlen7, po7⟩
  · rintro H'' ⟨e', H2, as', acc, ws, s2, rp2, hacc, hlen, po2⟩
    rw [List.drop_length] at po2
    have po2 : Po t (cn X t) W Fr σ H1 (rrR (cn X t) Fr σ) Q (.ok (.ow (.fl acc)) (unwipe e1 e' own)) := po2
    have rp3 : Rp (cn X t) H2 (upd Fr L (.lst ws)) H'' σ e' as' := by
      refine rp2.other (by rw [wipe_length]) fun i o q => ?_
      obtain ⟨v, h1, _⟩ := rp2.own i o q
      rw [(wipe_some h1).1, h1]
    obtain ⟨as4, rp4⟩ := rp3.unwipe (e0 := e1) (own := own) (H1 := H1) (is := own) fun i d z => by
      obtain ⟨v, h1, h2⟩ := old i d z
      exact ⟨v, h1, Dat.mono s2 _ _ h2⟩
    refine po2 (.ref L) H2 H'' s2 ⟨[L], as4, ⟨hlen, L, ws, rfl, rfl, ?_, hacc⟩, by simp, fun a ha => ?_, ?_⟩
    · exact (rp2.fr L _ upd_same).1
    · rw [List.mem_singleton.mp ha]
      exact ⟨(rp2.fr L _ upd_same).2, hFL⟩
    · have hF : addF Fr H'' [L] = upd Fr L (.lst ws) := by
        funext b
        by_cases z : b = L
        · subst z
          rw [addF_in (by simp), upd_same]
          exact (rp2.fr b _ upd_same).1
        · rw [addF_out (by simpa using z), upd_ne z]
      rw [hF]
      exact rp4
variable {elt target iter target1 iter1 : Expr} {ifs ifs1 : List Expr} {scope : Scope} {own : List (Str × Nat)} {own1 : List Nat} {pos : Pos} {tg tg1 : Tg} {mi mi1 : M (List D)} {mc mc1 : M Bool} {mv : M R}
theorem se_lc2 (hc : X.calm = true) (hN : X.N.Nodup) (hi : SI X t W target iter mi) (ok : BlkOk X.N X.env.scope scope own) (hv : ∀ i ∈ own1, i ∈ own.map (·.2))
    (hg : ∀ s H C cl fp, SG (Blk X scope s H C cl fp) t (fun i => !(own.map (·.2)).contains i) target tg) (ht : ∀ s H C cl fp, STs (Blk X scope s H C cl fp) t ifs mc)
    (hi1 : ∀ s H C cl fp, SI (Blk X scope s H C cl fp) t W0 target1 iter1 mi1) (hg1 : ∀ s H C cl fp, SG (Blk X scope s H C cl fp) t (fun i => !own1.contains i) target1 tg1) (ht1 : ∀ s H C cl fp, STs (Blk X scope s H C cl fp) t ifs1 mc1)
    (he : ∀ s H C cl fp, SE (Blk X scope s H C cl fp) t W0 elt mv) (hs : ∀ x, foldedSetIterable iter X.env x = pure x := by intro _; rfl) (hs1 : ∀ env x, foldedSetIterable iter1 env x = pure x := by intro _ _; rfl) :
    SE X t W (.ListComp elt [⟨target, iter, ifs, 0⟩, ⟨target1, iter1, ifs1, 0⟩] scope pos) (mLc2 (own.map (·.2)) tg mi mc own1 tg1 mi1 mc1 mv) :=
  PE.imp (pe_lc2 (own := own) hc hN hi ok hv hg ht hi1 hg1 ht1 he hs hs1) fun _ _ _ q => lc2_read hv q
end
end F
end

section
set_option Elab.async false
set_option linter.all false
set_option autoImplicit false
set_option maxRecDepth 100000
/-! F layer, part N: a = b = e; match; sorted. -/
namespace F
open PySem PySem.Spec PyProof.Rows L2
section
variable {X : Cx} {t : Tb} {W : WX} {P : Nat → Bool} {a b : Expr} {ma mb : M R} {pos p : Pos}
/-- t1 = t2 = e -/
def sAsg2 (t1 t2 : Tg) (a : M R) : MS := fun e => sOf (a e) fun r e1 => sOf (leak r e1) fun d e2 => ofOS (t1.put d e2) fun e3 => ofOS (t2.put d e3) fun e4 => .nx e4
theorem ss_asg2 {g1 g2 : Expr} {t1 t2 : Tg} (ha : SE X t W a ma) (h1 : SG X t P g1 t1) (h2 : SG X t P g2 t2) (hz : (assignEach [g1, g2] X.env).map (·.2) = [assign g1 X.env, assign g2 X.env] := by rfl) (hw : swappedStores [g1, g2] a X.env = pure none := by rfl) :
    SS X t W P (.Assign [g1, g2] a pos) (sAsg2 t1 t2 ma) := by
  refine PS.imp (ps_asg2 ha h1 h2 hz hw) fun D σ H ⟨e, H0, Fr, as, rp, po⟩ => ?_
  refine ⟨e, H0, Fr, as, rp, PoS.of po fun r e1 v H1 H' s rr po => ?_⟩
  obtain ⟨d, e2, H2, as2, q, s2, rp2, hd, po⟩ := PoS.leak po rr
  obtain ⟨e3, q3, po⟩ := PoS.ofOS po
  obtain ⟨e4, q4, po⟩ := PoS.ofOS po
  exact ⟨e2, H2, Fr, as2, d, e3, rp2, hd, q3, fun σ' as' p rp' => ⟨e3, H2, Fr, as', d, e4, rp', hd, q4, fun σ2 as3 p2 rp3 => po σ2 H2 H' as3 (Same.refl _) (p.trans p2) rp3⟩⟩
/-! ### match on texts -/
def ptB (l : Option (List (List Nat))) (x : List Nat) : Bool := match l with
  | none => true
  | some l => l.contains x
/-- a pattern against a text -/
def PPt (X : Cx) (pt : Pattern) (l : Option (List (List Nat))) : Prop := ∀ (pins : List (Addr × Obj)) (s : Shared) (σ : St) (H : Hp) (x : List Nat) (v : Value) (Q : Option (List (Str × Value)) → Shared → Prop), Inv X pins σ H s → RelV (.str (sS x)) v →
  (∀ s', Inv X pins σ H s' → Q (if ptB l x = true then some [] else none) s') → wpAny (model X.prog X.w) X.A (matchPattern pt X.env v) Q X.xe s
theorem ppt_str {x : Str} {l : List Nat} {j : Nat} (h : x = sS l := by decide +kernel) : PPt X (.MatchValue (.Constant (.str x) j p) pos) (some [l]) := by
  intro pins s σ H z v Q I r q
  subst h
  refine wpAny_matchPattern_Value (thn (pe_str.run pins s σ H (fun v H' => v = .str (sS l) ∧ H' = H) I ⟨rfl, rfl⟩) fun u s1 ⟨y, H1, I1, r1, q1⟩ => ?_)
  obtain ⟨rfl, rfl⟩ := q1
  refine thn (op_eq pins s1 σ H1 (.str (sS z)) (.str (sS l)) v u (fun v H' => v = .bl (sS z == sS l) ∧ H' = H1) I1 r r1 ⟨rfl, by rw [dec_str], rfl⟩) fun c s2 ⟨y, H2, I2, r2, q2⟩ => ?_
  obtain ⟨rfl, rfl⟩ := q2
  cases (show c = Value.bool (sS z == sS l) from r2)
  refine wpAny_truthy_bool ?_
  have := q s2 I2
  have e1 : ([l].contains z) = (sS z == sS l) := by
    rw [show (sS z == sS l) = (z == l) from SX.S_beq z l]
    show (z == l || false) = _
    rw [Bool.or_false]
  rw [show ptB (some [l]) z = (sS z == sS l) from e1] at this
  cases hb : (sS z == sS l) with
  | true => rw [hb] at this; exact this
  | false => rw [hb] at this; exact this
def PPts (X : Cx) (ps : List Pattern) (l : List (List Nat)) : Prop := ∀ (pins : List (Addr × Obj)) (s : Shared) (σ : St) (H : Hp) (x : List Nat) (v : Value) (Q : Option (List (Str × Value)) → Shared → Prop), Inv X pins σ H s → RelV (.str (sS x)) v →
  (∀ s', Inv X pins σ H s' → Q (if l.contains x = true then some [] else none) s') → wpAny (model X.prog X.w) X.A (matchFirst ps X.env v) Q X.xe s
theorem ppts_nil : PPts X [] [] := fun pins s σ H x v Q I r q => wpAny_matchFirst_nil (q s I)
theorem ppts_cons {pt : Pattern} {ps : List Pattern} {y : List Nat} {l : List (List Nat)} (h : PPt X pt (some [y])) (hr : PPts X ps l) : PPts X (pt :: ps) (y :: l) := by
  intro pins s σ H x v Q I r q
  refine wpAny_matchFirst_cons (h pins s σ H x v _ I r fun s1 I1 => ?_)
  by_cases z : x = y
  · have e1 : (y :: l).contains x = true := by simp [z]
    have := q s1 I1
    rw [if_pos e1] at this
    have e2 : ptB (some [y]) x = true := by show [y].contains x = true; simp [z]
    rw [if_pos e2]
    exact this
  · have e2 : ¬ ptB (some [y]) x = true := by show ¬ [y].contains x = true; simp [z]
    rw [if_neg e2]
    refine hr pins s1 σ H x v Q I1 r fun s2 I2 => ?_
    have e1 : (y :: l).contains x = l.contains x := by simp [z]
    rw [← e1]
    exact q s2 I2
theorem ppt_or {ps : List Pattern} {l : List (List Nat)} (h : PPts X ps l) : PPt X (.MatchOr ps pos) (some l) := by
  intro pins s σ H x v Q I r q
  refine wpAny_matchPattern_Or (h pins s σ H x v _ I r fun s1 I1 => ?_)
  have := q s1 I1
  by_cases z : l.contains x = true
  · rw [if_pos z]
    rw [if_pos (show ptB (some l) x = true from z)] at this
    have e : ((namesOfAll (ps.take 1)).filterMap fun n => (([] : List (Str × Value)).lookup n).map (n, ·)) = [] := by
      apply List.filterMap_eq_nil_iff.mpr
      intro a _
      rfl
    simp only [e]
    exact this
  · rw [if_neg z]
    rw [if_neg (show ¬ ptB (some l) x = true from z)] at this
    exact this
/-- the cases -/
def SMs (X : Cx) (t : Tb) (W : WX) (P : Nat → Bool) (cs : List MatchCase) (ml : List (Option (List (List Nat)) × MS)) : Prop := ∀ (pins : List (Addr × Obj)) (s : Shared) (σ : St) (H : Hp) (D : Ends) (x : List Nat) (v : Value) (first : Bool), Inv X pins σ H s → RelV (.str (sS x)) v →
  tS t (cn X t) W P (mtL ml x) D σ H → wpAny (model X.prog X.w) X.A (matchCases cs X.env v first) (SP X pins D) X.xe s
theorem sms_nil : SMs X t W P [] [] := fun pins s σ H D x v first I r ⟨e, H0, Fr, as, rp, po⟩ => wpAny_matchCases_nil ⟨σ, H, I, po σ H0 H as (Same.refl _) Prot.refl rp⟩
theorem sms_cons {pt : Pattern} {l : Option (List (List Nat))} {body : List Stmt} {mb : MS} {cs : List MatchCase} {ml : List (Option (List (List Nat)) × MS)} (h : PPt X pt l) (hb : SSs X t W P body mb) (hr : SMs X t W P cs ml) : SMs X t W P (⟨pt, none, body⟩ :: cs) ((l, mb) :: ml) := by
  intro pins s σ H D x v first I r ⟨e, H0, Fr, as, rp, po⟩
  refine wpAny_matchCases_cons (h pins s σ H x v _ I r fun s1 I1 => ?_)
  have po : PoS t (cn X t) W P Fr σ H0 D (if ptB l x = true then mb e else mtL ml x e) := po
  by_cases z : ptB l x = true
  · rw [if_pos z] at po ⊢
    exact wpAny_assignInOrder_none (hb.run pins s1 σ H D I1 ⟨e, H0, Fr, as, rp, po⟩)
  · rw [if_neg z] at po ⊢
    exact hr pins s1 σ H D x v false I1 r ⟨e, H0, Fr, as, rp, po⟩
theorem ss_match {cs : List MatchCase} {ml : List (Option (List (List Nat)) × MS)} (ha : SE X t W a ma) (h : SMs X t W P cs ml) : SS X t W P (.Match a cs pos) (sMatch ma ml) := by
  refine ⟨fun pins s σ H D I ⟨e, H0, Fr, as, rp, po⟩ => ?_⟩
  have q : tI X t W ma σ H fun v H' => ∃ x, v = .str (sS x) ∧ tS t (cn X t) W P (mtL ml x) D σ H' := by
    refine ⟨e, H0, Fr, as, rp, PoS.of (f := fun r e1 => match peek r e1 with
      | some (.str x) => mtL ml x e1
      | _ => .bad) po fun r e1 v H1 H' s rr po => ?_⟩
    match q : peek r e1, po with
    | some (.str x), po =>
      obtain ⟨H2, as, s2, rp, hd⟩ := RpR.peek rr q
      exact ⟨x, hd.1, e1, H2, Fr, as, rp, PoS.mono s2 Prot.refl po⟩
  refine wpAny_Match (thn (ha.run pins s σ H _ I q) fun u s1 ⟨v, H1, I1, r1, x, e1, q1⟩ => ?_)
  subst e1
  exact h pins s1 σ H1 D x u true I1 r1 q1
end
/-! ### sorted(text) -/
def chrs (z : Str) : List Str := z.cps.toList.map fun k => ⟨#[k]⟩
def rSortStr : List V → Hp → VK → Prop := fun xs H Q => ∃ z, xs = [.str z] ∧ z.length ≤ sizeLine ∧ ∀ (ys : List Str) (p : Addr), ys.Perm (chrs z) → sortedS ys = true → H p = none → Q (.ref p) (upd H p (.lst (ys.map V.str)))
theorem collectS {prog : Program} {w : World} {A : Around} {E : Value → Shared → Prop} {s : Shared} {Q : List Value → Shared → Prop} (hA : A.handled = none) (z : Str) (t : Tok) (hn : z.cps.size ≤ sizeLine)
    (q : ∀ s2 vs, s.heap.objs.size ≤ s2.heap.objs.size → (∀ b o, s.heap.get? b = some o → s2.heap.get? b = some o) → s2.gens = s.gens → s2.drawn = s.drawn → s2.os = s.os → ItemsOf (SignAt z) vs z.cps.size → Q vs.toList s2) : wpAny (model prog w) A (collect (.str z t)) Q E s := by
  have new0 : (s.heap.push (seqObj "list" #[] 0)).get? s.heap.objs.size = some (seqObj "list" #[] 0) := Heap.get?_push_size _ rfl
  unfold collect; refine wpAny_bind (wpAny_runValue (codeAny_builtin PySem.F.entry_proto_collect ?_)); rw [Around.under_plainId PySem.F.plain_proto_collect _]
  show wpAny (model prog w) A.in1 (newList [] >>= fun n => again (.builtin "list.__iadd__" ⟨[n, .str z t], []⟩)) _ _ s
  refine wpAny_bind (wpAny_newObj_type (wpAny_pure ⟨plainId_quiet PySem.F.plain_list_iadd _, codeAny_builtin PySem.F.entry_list_iadd ?_⟩)); rw [Around.under_plainId PySem.F.plain_list_iadd _]
  show wpAny (model prog w) A.in1 (Builtin.List.listExtendWith (.ref s.heap.objs.size) (.str z t) (.ref s.heap.objs.size)) _ _ { s with heap := s.heap.push (seqObj "list" #[] 0) }
  unfold Builtin.List.listExtendWith; refine wpAny_bind (wpAny_typeOf (T := "str") (v := .str z t) rfl ?_)
  simp only [show Builtin.List.listSameRef (.ref s.heap.objs.size) (.str z t) = false from rfl, show (Value.type "str" == Value.type "list") = false by decide, show (Value.type "str" == Value.type "tuple") = false by decide, Bool.or_false, Bool.false_eq_true, if_false]
  generalize hG : s.heap.push (seqObj "list" #[] 0) = G at new0 ⊢
  have hGs : G.objs.size = s.heap.objs.size + 1 := by rw [← hG]; exact Heap.size_push ..
  refine wpAny_bind (wpAny_pyIter_str fun ob St wk st0 => wpAny_bind (wpAny_holding ?_)); unfold Builtin.List.listLengthHint
  refine wpAny_bind (wpAny_specialOf (T := "str") (v := .str z t) rfl PySem.F.str_len ?_)
  wp_delta
  refine wpAny_bind (wpAny_isInstance (T := "str") (v := .str z t) (b := true) rfl (by rw [isSubtype_type]; kernel_rfl) ?_); show wpAny (model prog w) A.in1 (typeOf (Value.str z t) >>= _) _ _ _
  refine wpAny_bind (wpAny_typeOf (T := "str") (v := .str z t) rfl (wpAny_pure ?_)); rw [if_neg (by decide)]
  have apart : s.heap.objs.size ∉ [G.objs.size] := fun hm => by have := List.mem_singleton.mp hm; omega
  refine wpAny_pure ⟨plainId_quiet PySem.F.plain_extend_loop _, codeAny_extend_loopS (wk A.in1 hA).toS hn _ apart _ z.cps.size 0 _ _ _ rfl (Nat.zero_le _) st0 (Heap.get?_push_of_some _ new0) (ItemsOf.nil _) fun s2 vs c2 mv at2 items => ?_⟩
  show wpAny (model prog w) A (load s.heap.objs.size >>= _) _ _ s2
  refine wpAny_bind (wpAny_load at2 (wpAny_pure (q s2 vs (Nat.le_of_lt (Heap.lt_size at2)) (fun b o e => mv.heap b o (fun hb => ?_) (Heap.get?_push_of_some _ (hG ▸ Heap.get?_push_of_some _ e))) mv.gens mv.drawn mv.os items)))
  have lt := Heap.lt_size e
  rcases List.mem_cons.mp hb with h | h
  · rw [h] at lt; exact Nat.lt_irrefl _ lt
  · rw [List.mem_singleton.mp h, hGs] at lt; exact Nat.not_succ_lt_self lt
theorem strs_list : ∀ (vs : List Value) (cs : List Nat), vs.length = cs.length → (∀ (j : Nat) v, vs[j]? = some v → ∃ c u, cs[j]? = some c ∧ v = .str ⟨#[c]⟩ u) → StrsAre vs (cs.map fun k => (⟨#[k]⟩ : Str))
  | [], [], _, _ => .nil
  | [], _ :: _, h, _ => by cases h
  | _ :: _, [], h, _ => by cases h
  | v :: vs, k :: cs, h, a => by
    obtain ⟨c, u, h1, rfl⟩ := a 0 v rfl
    cases h1
    exact .cons _ u (strs_list vs cs (by simpa using h) fun j w hj => a (j + 1) w hj)
theorem strs_items (acc : Array Value) (z : Str) (h : ItemsOf (SignAt z) acc z.cps.size) : StrsAre acc.toList (chrs z) := by
  refine strs_list _ _ (by rw [Array.length_toList, Array.length_toList, h.1]) fun j v hj => ?_
  obtain ⟨c, u, h1, h2⟩ := h.2 j v (by rw [← Array.getElem?_toList]; exact hj)
  exact ⟨c, u, by rw [Array.getElem?_toList]; exact h1, h2⟩
theorem call_sortStr {X : Cx} (hc : X.calm = true) : CallR X (.builtin "sorted") rSortStr := by
  intro pins s σ H xs us Q I r h
  obtain ⟨z, rfl, hl, q⟩ := h
  cases r with
  | cons r1 rs =>
  cases rs
  obtain ⟨t, rfl⟩ := r1
  refine Calls.call_function_entry kind_sorted plain_sorted entry_sorted (args_sorted1 _) ?_
  unfold Builtin.«sorted»
  refine wpAny_bind (m := checkCount "sorted" 1 1 _) (wpAny_pure ?_)
  refine wpAny_bind (collectS (A := X.A.in1) (show X.A.in1.handled = none from I.ok.hd hc) z t hl fun s' acc hge hk hg hd ho hi => ?_)
  have hL : acc.toList.length ≤ sizeLine := by
    rw [Array.length_toList, hi.1]
    exact hl
  refine wpAny_bind (wpAny_newList ?_ hL)
  have hS : StrsAre acc.toList (chrs z) := strs_items acc z hi
  have hoL : (s'.heap.push (seqObj "list" acc.toList.toArray 0)).get? s'.heap.objs.size = some (seqObj "list" acc.toList.toArray 0) := Heap.get?_push_size _ rfl
  show wpAny _ _ _ _ _ { s' with heap := s'.heap.push (seqObj "list" acc.toList.toArray 0) }
  refine wpAny_bind (wpAny_holding (wpAny_call_entry slot_list_sort ⟨_, hoL, rfl⟩ entry_list_sort (list_sort_treeKAny strKind_oneLt hoL hS.keysOf (fun v₁ v₂ rest e => keyKind_strs (by rw [← e]; exact hS)) hL fun st' hp hs => ⟨_, rfl, ?_⟩) (args_list_sort _)))
  refine wpAny_pure ⟨_, rfl, ?_⟩
  obtain ⟨ss', h1, h2, h3⟩ := sorted_out_str hS hp hs
  obtain ⟨e, he⟩ := sortedHeap_at (out := (arrOf st').map (·.2)) hoL
  have hlt : ∀ b u, s.heap.get? b = some u → b < s'.heap.objs.size := fun b u e => Heap.lt_size (hk b u e)
  have hkeep : ∀ b u, s.heap.get? b = some u → (sortedHeap (s'.heap.push (seqObj "list" acc.toList.toArray 0)) s'.heap.objs.size acc.toList ((arrOf st').map (·.2))).get? b = some u := fun b u e => by
    have hb := hlt b u e
    rw [sortedHeap_old (Nat.ne_of_lt hb) (by rw [Heap.size_push]; exact Nat.lt_succ_of_lt hb), Heap.get?_push_ne _ _ _ (Nat.ne_of_lt hb)]
    exact hk b u e
  have hlen : (ss'.map V.str).length ≤ sizeLine := by
    rw [List.length_map, h2.length_eq]
    show ((z.cps.toList.map fun k => (⟨#[k]⟩ : Str))).length ≤ sizeLine
    rw [List.length_map, Array.length_toList]
    exact hl
  have I2 := I.laid (a := s'.heap.objs.size) (o := .lst (ss'.map V.str)) (t' := s'.toks) hkeep hge ⟨hlen, ((arrOf st').map (·.2)).toList, e, vals_of_strs h1, by rw [Array.toArray_toList]; exact he⟩
  refine ⟨.ref _, _, ?_, rfl, q ss' _ h2 h3 (I.hok.fresh hge)⟩
  have es : ({ s' with heap := sortedHeap (s'.heap.push (seqObj "list" acc.toList.toArray 0)) s'.heap.objs.size acc.toList ((arrOf st').map (·.2)) } : Shared) = { s with heap := sortedHeap (s'.heap.push (seqObj "list" acc.toList.toArray 0)) s'.heap.objs.size acc.toList ((arrOf st').map (·.2)), toks := s'.toks } := by
    cases s
    cases s'
    simp only at hg hd ho
    subst hg hd ho
    rfl
  exact es ▸ I2
def insN (k : Nat) : List Nat → List Nat
  | [] => [k]
  | a :: r => if k ≤ a then k :: a :: r else a :: insN k r
def insS : List Nat → List Nat
  | [] => []
  | k :: r => insN k (insS r)
theorem insN_le (a b : Nat) (h : a ≤ b) : ∀ l : List Nat, insN a (insN b l) = insN b (insN a l)
  | [] => by
    simp only [insN, h, if_true]
    by_cases h2 : b ≤ a
    · have : a = b := Nat.le_antisymm h h2
      subst this
      simp
    · simp only [h2, if_false]
  | c :: l => by
    by_cases h1 : b ≤ c
    · have h3 : a ≤ c := Nat.le_trans h h1
      simp only [insN, h1, h3, h, if_true]
      by_cases h2 : b ≤ a
      · have : a = b := Nat.le_antisymm h h2
        subst this
        simp
      · simp only [h2, if_false, h1, if_true]
    · by_cases h3 : a ≤ c
      · have h2 : ¬ b ≤ a := fun z => h1 (Nat.le_trans z h3)
        simp only [insN, h1, h3, h2, if_true, if_false]
      · simp only [insN, h1, h3, if_false]
        rw [insN_le a b h l]
theorem insN_comm (a b : Nat) (l : List Nat) : insN a (insN b l) = insN b (insN a l) := by
  rcases Nat.le_total a b with h | h
  · exact insN_le a b h l
  · exact (insN_le b a h l).symm
theorem insS_perm {a b : List Nat} (h : a.Perm b) : insS a = insS b := by
  induction h with
  | nil => rfl
  | cons x _ ih => simp only [insS, ih]
  | swap x y l => exact insN_comm y x (insS l)
  | trans _ _ i1 i2 => exact i1.trans i2
def mkC (k : Nat) : Str := ⟨#[k]⟩
theorem lt_mkC (a b : Nat) : ltCps (mkC a).cps.toList (mkC b).cps.toList = decide (a < b) := by
  show (decide (a < b) || (a == b && ltCps [] [])) = decide (a < b)
  simp [ltCps]
theorem rise_insS : ∀ (k : Nat) (l : List Nat), risingS (mkC k) (l.map mkC) = true → insS (k :: l) = k :: l
  | k, [], _ => rfl
  | k, a :: l, h => by
    have h : (!ltCps (mkC a).cps.toList (mkC k).cps.toList && risingS (mkC a) (l.map mkC)) = true := h
    rw [Bool.and_eq_true, lt_mkC] at h
    have ih := rise_insS a l h.2
    have h1 : k ≤ a := by
      have := h.1
      simp at this
      exact this
    show insN k (insS (a :: l)) = _
    rw [ih]
    simp only [insN, h1, if_true]
theorem sort_uniq {ys : List Str} {cs : List Nat} (hp : ys.Perm (cs.map mkC)) (hs : sortedS ys = true) : ys = (insS cs).map mkC := by
  have hall : ∀ y ∈ ys, ∃ k, y = mkC k := fun y hy => by
    obtain ⟨k, _, e⟩ := List.mem_map.mp (hp.mem_iff.mp hy)
    exact ⟨k, e.symm⟩
  have hds : ∃ ds : List Nat, ys = ds.map mkC := by
    clear hp hs
    induction ys with
    | nil => exact ⟨[], rfl⟩
    | cons y ys ih =>
      obtain ⟨k, hk⟩ := hall y (List.mem_cons_self ..)
      obtain ⟨ds, e⟩ := ih fun z hz => hall z (List.mem_cons_of_mem _ hz)
      exact ⟨k :: ds, by rw [hk, e]; rfl⟩
  obtain ⟨ds, rfl⟩ := hds
  have hg : ∀ l : List Nat, (l.map mkC).map (fun y => y.cps[0]?.getD 0) = l := fun l => by
    induction l with
    | nil => rfl
    | cons a l ih =>
      rw [List.map_cons, List.map_cons, ih]
      rfl
  have hp2 : ds.Perm cs := by
    have := hp.map (fun y : Str => y.cps[0]?.getD 0)
    rw [hg, hg] at this
    exact this
  have e1 : insS ds = ds := by
    cases ds with
    | nil => rfl
    | cons k l => exact rise_insS k l hs
  rw [← insS_perm hp2, e1]
def sortSD : List D → Option (List D)
  | [.str x] => some ((insS x).map fun k => .str [k])
  | _ => none
theorem insN_len (k : Nat) : ∀ l : List Nat, (insN k l).length = l.length + 1
  | [] => rfl
  | a :: l => by
    simp only [insN]
    split
    · rfl
    · simp [insN_len k l]
theorem insS_len : ∀ l : List Nat, (insS l).length = l.length
  | [] => rfl
  | a :: l => by simp [insS, insN_len, insS_len l]
theorem b_sortS {c : Cn} : CBl c rSortStr sortSD := by
  intro H0 H xs ds l Q s e h nl
  match ds, e with
  | [.str x], e =>
    cases e
    obtain ⟨v, rfl, rfl, hl⟩ := h.one
    refine ⟨sS x, rfl, by rw [sS_len, sizeLine_lim]; exact hl, fun ys p hp hs hH => ?_⟩
    have hu : ys = (insS x).map mkC := sort_uniq (show ys.Perm (x.map mkC) by
      have : chrs (sS x) = x.map mkC := rfl
      rw [← this]; exact hp) hs
    subst hu
    refine nl p _ hH (by rw [List.length_map, insS_len]; exact hl) ?_
    have : ∀ l : List Nat, Dats c H0 (l.map fun k => D.str [k]) ((l.map mkC).map V.str) := fun l => by
      induction l with
      | nil => rfl
      | cons a l ih => exact ⟨.str (mkC a), _, rfl, ⟨rfl, by show 1 ≤ lim; decide⟩, ih⟩
    exact this _
end F
end

section
set_option Elab.async false
set_option linter.all false
set_option autoImplicit false
set_option maxRecDepth 100000
/-! F layer, part P: defs by names. -/
namespace F
open PySem PySem.Spec PyProof.Rows L2
/-- the def that the module's name x stands for: called with some arguments, the defaults dfl behind them, it does as Z says -/
def FnG (P : Program) (w : World) (K : PySem.W.Frag) (mg : Str → Option Value) (base : Heap) (t : Tb) (x : Str) (k n : Nat) (Z : Fn) (dfl : List D) : Prop :=
  ∃ (f : Addr) (fd : FuncData) (ps : List Str) (dvs : List V) (ds : List Value), FO P w K mg base t k f fd ps Z n ∧ mg x = some (.ref f) ∧ PySem.W.keepIn K (.ref f) = true ∧ Binds K fd ps ds ∧ Vals dvs ds ∧ ∀ H, Dats ⟨K, t.cls, t.fld, t.tabs, t.ex, t.exM, t.exR⟩ H dfl dvs
section
variable {X : Cx} {t : Tb} {W : WX} {a : Expr} {es : List Expr} {ms : List (M R)} {pos p : Pos} {x : Str} {k kk n : Nat} {Z : Fn} {dfl : List D}
theorem se_fn (G : FnG X.prog X.w X.K X.mg X.base t x k n Z dfl) (hr : Room kk X.A) (hu : X.A.guards = some []) (tk : Takes X W) (md : List Md) (ha : SA X t W (a :: es) (mRs ms)) (hg : Gl X x := by rfl) (hk : k ≤ kk := by decide)
    (hn : ms.length + dfl.length = n := by rfl) (hdb : (x == ("__debug__" : Str)) = false := by decide) (he : starEach (a :: es) X.env = (false, eval a X.env) :: starEach es X.env := by rfl) (hpl : (backTo pos (starEach es X.env)).any (·.1) = false := by rfl) :
    SE X t W (.Call (.Name x p) (a :: es) [] pos) (mCall Z md dfl ms) := by
  obtain ⟨f, fd, ps, dvs, ds, G, hm, hk2, hb, hd, hdd⟩ := G
  exact se_call G (hr.mono hk) hu hg hm hk2 hb hd hdd tk md ha hn hdb he hpl
theorem pe_fn0 {CX : CXT} {f : Addr} {fd : FuncData} {ps : List Str} {sp : Sp} {ds : List Value} {dvs : List V} {E : St → XK} (G0 : FnQ X.prog X.w X.K X.mg X.base CX k f fd ps sp) (hr : Room k X.A) (hu : X.A.guards = some []) (hg : Gl X x) (hm : X.mg x = some (.ref f)) (hk : PySem.W.keepIn X.K (.ref f) = true) (hb : Binds X.K fd ps ds) (hd : Vals dvs ds) (hx : ∀ σ, PassesAt CX X σ (E σ))
    (hdb : (x == ("__debug__" : Str)) = false := by decide) : PE X (.Call (.Name x p) [] [] pos) (tCallSD sp dvs E tNil) :=
  ⟨fun pins s σ H Q I h => wpAny_Call_Name_kw (ld_glob I hg hm (PySem.W.callWith_K0 I.kIn hk (run_q (us := []) G0 hr hu hb hd (hx σ) I .nil h)) hdb)⟩
theorem se_fn0 (G : FnG X.prog X.w X.K X.mg X.base t x k n Z dfl) (hr : Room kk X.A) (hu : X.A.guards = some []) (tk : Takes X W) (hg : Gl X x := by rfl) (hk : k ≤ kk := by decide) (hn : dfl.length = n := by rfl) (hdb : (x == ("__debug__" : Str)) = false := by decide) :
    SE X t W (.Call (.Name x p) [] [] pos) (mCall Z [] dfl []) := by
  obtain ⟨f, fd, ps, dvs, ds, G, hm, hk2, hb, hd, hdd⟩ := G
  refine PE.imp (pe_fn0 G (hr.mono hk) hu hg hm hk2 hb hd (passAt tk) hdb) fun σ H Q q => ?_
  have := call_ok (ms := []) hdd (by simpa using hn) q
  obtain ⟨e, H0, Fr, as, rp, po⟩ := this
  exact po [] H0 H (Same.refl _) ⟨⟨as, rp⟩, rfl⟩
theorem se_bad : SE X t W a mBad := ⟨fun pins s σ H Q I ⟨_, _, _, _, _, q⟩ => q.elim⟩
theorem u1 (hr : Room k X.A) : X.A.units + 1 < cLine := by have := hr.units; omega
theorem no_takes : Takes X W0 := fun u s' ⟨_, _, _, _, _, _, _, _, _, _, _, _, _, _, _, _, w⟩ => w.elim
end
theorem bt_str : bootBuiltins "str" = some (.type (tyN .str)) := by decide +kernel
/-! ### tables of the text -/
def strD (l : List (List Nat)) : List D := l.map .str
theorem tab_strs {K : PySem.W.Frag} {x : Str} {l : List (List Nat)} (c : Cn) (hK : c.K = K) (h : He.tupB K x (l.map fun z => .str (sS z)) = true) (hl : l.length ≤ lim := by decide) (hz : l.all (fun z => decide (z.length ≤ lim)) = true := by decide) (H : Hp) : Dat c H (.tup (strD l)) (.ref (He.ga K x)) := by
  subst hK
  refine ⟨by simpa [strD] using hl, He.ga c.K x, _, rfl, He.tupB_ok h H, ?_⟩
  have : ∀ l : List (List Nat), l.all (fun z => decide (z.length ≤ lim)) = true → Dats c H (strD l) ((l.map fun z => He.Dv.str (sS z)).map (He.Dv.v c.K)) := fun l => by
    induction l with
    | nil => exact fun _ => rfl
    | cons a l ih =>
      intro h
      rw [List.all_cons, Bool.and_eq_true] at h
      exact ⟨.str (sS a), _, rfl, ⟨rfl, of_decide_eq_true h.1⟩, ih h.2⟩
  exact this l hz
def strKD (l : List (List Nat × List Nat)) : List (List Nat × D) := l.map fun p => (p.1, .str p.2)
theorem tab_kd {K : PySem.W.Frag} {w : World} {X : Cx} {t : Tb} {a : Addr} {l : List (List Nat × List Nat)} (hK : X.K = K) (hw : X.w = w) (hd : ∃ es n, KDict K w a es n) (h : He.valsB K a (l.map fun p => (sS p.1, .str (sS p.2))) = true) (hz : l.all (fun p => decide (p.2.length ≤ lim)) = true := by decide) : KTab X t a (strKD l) := by
  subst hK hw
  intro x d hx
  obtain ⟨es, n, hd⟩ := hd
  have : ∀ m : List (List Nat × List Nat), (strKD m).lookup x = some d → ∃ p ∈ m, p.1 = x ∧ d = .str p.2 := fun m => by
    induction m with
    | nil => exact fun z => by cases z
    | cons p m ih =>
      intro z
      have z : (match x == p.1 with | true => some (D.str p.2) | false => (strKD m).lookup x) = some d := z
      cases q : x == p.1 with
      | true =>
        rw [q] at z
        cases z
        exact ⟨p, List.mem_cons_self .., (eq_of_beq q).symm, rfl⟩
      | false =>
        rw [q] at z
        obtain ⟨p', h1, h2⟩ := ih z
        exact ⟨p', List.mem_cons_of_mem _ h1, h2⟩
  obtain ⟨p, hp, rfl, rfl⟩ := this l hx
  obtain ⟨u, h1, h2⟩ := He.valsB_ok h (q := (sS p.1, .str (sS p.2))) (List.mem_map.mpr ⟨p, hp, rfl⟩)
  refine ⟨.str (sS p.2), ⟨es, n, u, hd.at_, hd.lit, h1, h2⟩, fun H => ⟨rfl, of_decide_eq_true (List.all_eq_true.mp hz p hp)⟩⟩
/-! ### the law's end -/
/-- all but the tables -/
def cutT (T : List (Addr × Option Str)) (H : Hp) : Hp := fun b => if b ∈ T.map (·.1) then none else H b
theorem cutT_same {T : List (Addr × Option Str)} {H : Hp} : Same (cutT T H) H := fun b o e => by
  unfold cutT at e
  split at e
  · cases e
  · exact e
theorem cutT_rd {T : List (Addr × Option Str)} {H : Hp} {a : Addr} {u : HO} (hT : ∀ p ∈ T, H p.1 = some (.tbl #[])) (hu : ∀ ps, u ≠ .tbl ps) (h : Rd H a u) : Rd (cutT T H) a u := by
  have na : a ∉ T.map (·.1) := fun z => by
    obtain ⟨p, hp, e⟩ := List.mem_map.mp z
    have q := hT p hp
    rw [e] at q
    rcases h with h | ⟨o, h⟩
    · rw [h] at q
      exact hu _ (Option.some.inj q)
    · rw [h] at q
      cases q
  unfold Rd cutT
  rw [if_neg na]
  exact h
theorem Rp_script {K : PySem.W.Frag} {t : Tb} {H : Hp} {a : Addr} {ns : List Int} (hl : ns.length ≤ lim) (h : SqL K H a (ns.map V.int)) (hT : ∀ p ∈ t.tabs, H p.1 = some (.tbl #[])) : Rp ⟨K, t.cls, t.fld, t.tabs, t.ex, t.exM, t.exR⟩ (cutT t.tabs H) (fun _ => none) H [some (.ref a)] [some (.sh (.lst (ns.map .int)))] (fun _ => []) := by
  have h' : SqL K (cutT t.tabs H) a (ns.map V.int) := h.elim (fun h => .inl (cutT_rd hT (fun ps z => by cases z) h)) .inr
  have hd : ∀ l : List Int, Dats ⟨K, t.cls, t.fld, t.tabs, t.ex, t.exM, t.exR⟩ (cutT t.tabs H) (l.map D.int) (l.map V.int) := fun l => by
    induction l with
    | nil => rfl
    | cons a l ih => exact ⟨.int a, _, rfl, rfl, ih⟩
  refine ⟨rfl, cutT_same, fun b o (e : none = some o) => (by cases e), fun i o e => ?_, fun i a h => (by cases h), fun i j a h => (by cases h), fun _ => List.nodup_nil, fun _ _ => rfl, fun p hp => ⟨#[], hT p hp, True.intro, fun q _ pos cv hc => ?_⟩, fun p hp => if_pos (List.mem_map.mpr ⟨p, hp, rfl⟩), fun p hp => rfl, fun p hp i z => by cases z⟩
  · match i, e with
    | 0, e =>
      cases e
      exact ⟨.ref a, rfl, rfl, by simpa using hl, a, _, rfl, h', hd ns⟩
  · have z : codeAmong pos [] = some cv := hc
    simp [codeAmong] at z
theorem law_end {t : Tb} {K : PySem.W.Frag} {Z : Fn} (hz : ∀ ns : List Int, ns.length ≤ 63 → ∃ os, Z [.sh (.lst (ns.map .int))] = .rt (.sh (.bl true)) os) (H : Hp) (a : Addr) (ns : List Int) (hl : ns.length ≤ 63) (hT : ∀ p ∈ t.tabs, H p.1 = some (.tbl #[])) (hS : SqL K H a (ns.map V.int)) :
    spF t ⟨K, t.cls, t.fld, t.tabs, t.ex, t.exM, t.exR⟩ Z 1 [.ref a] H (fun v _ => v = .bl true) fun _ _ _ => False := by
  obtain ⟨os, e⟩ := hz ns hl
  refine ⟨rfl, [.sh (.lst (ns.map .int))], cutT t.tabs H, fun _ => none, fun _ => [], Rp_script (Nat.le_trans hl (by decide)) hS hT, ?_⟩
  rw [e]
  rintro v H1 H' s ⟨bs, as, ⟨_, h⟩, _⟩
  exact h
theorem no_exc {P : Program} {w : World} (H : Hp) (s : Shared) (e : Value) (s' : Shared) : L2.CX P w [] H s (fun _ _ _ => False) e s' → False := fun ⟨_, _, _, _, _, _, _, _, _, _, _, _, h⟩ => h
theorem fd_uniq {K : PySem.W.Frag} {x qual : Str} {params : Arguments} {body : List Stmt} {scope : Scope} {dvs : List V} {kws : List (Str × V)} {f : Addr} {fd fd' : FuncData} (h : FunD K x qual params body scope dvs kws f fd) (h' : FunD K x qual params body scope dvs kws f fd') : fd = fd' := by
  obtain ⟨_, _, _, _, _, _, _, _, _, _, _, h1, _⟩ := h.ex
  obtain ⟨_, _, _, _, _, _, _, _, _, _, _, h2, _⟩ := h'.ex
  rw [h1] at h2
  cases h2
  rfl
end F
end

section
set_option Elab.async false
set_option linter.all false
set_option maxRecDepth 100000
set_option maxHeartbeats 2000000
/-! F layer, part Q: next of a generator expression over a text with one test. -/
namespace F
open PySem PySem.Spec PyProof.Rows L2
section
variable {X : Cx} {pins : List (Addr × Obj)} {σ : L2.St} {H : Hp} {s : Shared}
end
section
variable {prog : Program} {w : World} {A : Around} {E : Value → Shared → Prop} {s : Shared}
end
section
variable {X : Cx}
end
/-! ### tests -/
end F
end

section
set_option Elab.async false
set_option linter.all false
set_option maxRecDepth 100000
set_option maxHeartbeats 2000000
/-! F layer, part R: next; all, any; find, rfind; zip; range with two ends; forgetting. -/
namespace F
open PySem PySem.Spec PyProof.Rows L2
/-! ### tables -/
/-- next((x for x in e if f), None) -/
def mNextS (f : Nat → Bool) (a : M R) : M R := fun e => andThen (a e) fun r e1 => match peek r e1 with
  | some (.str x) => .ok (.d (match x.find? f with | some k => .str [k] | none => .non)) e1
  | _ => .bad
section
variable {X : Cx} {t : Tb} {W : WX} {P : Nat → Bool}
end
/-! ### all, any of a list of bools -/
/-! ### find, rfind -/
/-! ### zip -/
def zipF : List D → List D → List D
  | x :: xs, y :: ys => .tup [x, y] :: zipF xs ys
  | _, _ => []
theorem zipF_len : ∀ xs ys : List D, (zipF xs ys).length = min xs.length ys.length
  | [], ys => by simp [zipF]
  | x :: xs, [] => by simp [zipF]
  | x :: xs, y :: ys => by simp only [zipF, List.length_cons, zipF_len xs ys]; omega
theorem zipF_at : ∀ (xs ys : List D) (i : Nat) (hx : i < xs.length) (hy : i < ys.length), (zipF xs ys)[i]? = some (.tup [xs[i], ys[i]])
  | x :: xs, y :: ys, 0, _, _ => rfl
  | x :: xs, y :: ys, i + 1, hx, hy => by
    simp only [zipF, List.getElem?_cons_succ]
    rw [zipF_at xs ys i (Nat.lt_of_succ_lt_succ hx) (Nat.lt_of_succ_lt_succ hy)]
    rfl
def zipR : D → D → Env → Rs (List D)
  | .lst xs, .lst ys, e => .ok (zipF xs ys) e
  | _, _, _ => .bad
def mItZ (a b : M R) : M (List D) := fun e => andThen (a e) fun r e1 => andThen (leak r e1) fun x e2 => andThen (b e2) fun q e3 => andThen (leak q e3) fun y e4 => zipR x y e4
section
variable {X : Cx} {t : Tb} {W : WX} {a b : Expr} {ma mb : M R} {pos p tpos : Pos} {elts : List Expr} {kk : Nat}
theorem wk_zip {c : Cn} {H0 : Hp} {a b : Addr} {xs ys : List D} {vs ws : List V} (h1 : SqL c.K H0 a vs) (h2 : SqL c.K H0 b ws) (d1 : Dats c H0 xs vs) (d2 : Dats c H0 ys ws) : WkD c H0 (Itz c.K a b) (zipF xs ys) := by
  refine wk_mk (walk_zip (xs := vs) (ys := ws) rfl) (by rw [zipF_len, d1.len, d2.len]) (fun H2 H' s1 s2 => ⟨SqL.same (s1.trans s2) h1, SqL.same (s1.trans s2) h2⟩) ?_
  rintro i H2 H' x H'' hi s1 s2 ⟨T, x1, y1, rfl, hT, rfl, e1, e2⟩
  rw [zipF_len] at hi
  have hx : i < xs.length := by omega
  have hy : i < ys.length := by omega
  obtain ⟨v, g1, g2⟩ := d1.get (List.getElem?_eq_getElem hx)
  obtain ⟨w, g3, g4⟩ := d2.get (List.getElem?_eq_getElem hy)
  have e1 : vs[i]? = some x1 := e1
  have e2 : ws[i]? = some y1 := e2
  rw [e1] at g1
  rw [e2] at g3
  cases g1
  cases g3
  have hT2 : H2 T = none := by
    cases q : H2 T with
    | none => rfl
    | some o => rw [s2 _ _ q] at hT; cases hT
  refine ⟨_, zipF_at xs ys i hx hy, .inr ⟨T, _, rfl, hT, rfl, ?_⟩⟩
  exact dat_pair (fun d v h => Dat.mono (same_upd hT2) _ _ h) (Dat.mono s1 _ _ g2) (Dat.mono s1 _ _ g4)
theorem si_zip (hg : Gl X "zip") (hm : X.mg "zip" = none) (ha : SE X t W a ma) (hb : SE X t W b mb) (hs : starEach [a, b] X.env = (false, eval a X.env) :: starEach [b] X.env := by rfl) (hs2 : starEach [b] X.env = [(false, eval b X.env)] := by rfl) (hpl : (backTo pos (starEach [b] X.env)).any (·.1) = false := by rfl) :
    SI X t W (.Tuple elts kk tpos) (.Call (.Name "zip" p) [a, b] [] pos) (mItZ ma mb) := by
  refine PI.imp (pi_zip hg hm (sd_cons ha (sd_cons hb sd_nil hs2) hs) hs hpl) fun σ H Q ⟨e, H0, Fr, as, rp, po⟩ => ?_
  refine ⟨e, H0, Fr, as, rp, ?_⟩
  have po : Po t (cn X t) W Fr σ H0 (rrI (cn X t) Fr σ) Q (andThen (ma e) fun r e1 => andThen (leak r e1) fun x e2 => andThen (mb e2) fun q e3 => andThen (leak q e3) fun y e4 => zipR x y e4) := po
  show Po t (cn X t) W Fr σ H0 (rrDs (cn X t) Fr σ) _ (andThen (ma e) fun r e1 => andThen (leak r e1) fun x e2 => andThen (andThen (mb e2) fun q e3 => andThen (leak q e3) fun y e4 => .ok [y] e4) fun ds e5 => .ok (x :: ds) e5)
  cases q0 : ma e with
  | bad => rw [q0] at po; exact po.elim
  | ex k' p' e1 => rw [q0] at po; exact po
  | ok ra e1 =>
    rw [q0] at po
    have po : Po t (cn X t) W Fr σ H0 (rrI (cn X t) Fr σ) Q (andThen (leak ra e1) fun x e2 => andThen (mb e2) fun q e3 => andThen (leak q e3) fun y e4 => zipR x y e4) := po
    show Po t (cn X t) W Fr σ H0 (rrDs (cn X t) Fr σ) _ (andThen (leak ra e1) fun x e2 => andThen (andThen (mb e2) fun q e3 => andThen (leak q e3) fun y e4 => .ok [y] e4) fun ds e5 => .ok (x :: ds) e5)
    cases q1 : leak ra e1 with
    | bad => rw [q1] at po; exact po.elim
    | ex k' p' e2 => rw [q1] at po; exact po
    | ok x e2 =>
      rw [q1] at po
      have po : Po t (cn X t) W Fr σ H0 (rrI (cn X t) Fr σ) Q (andThen (mb e2) fun q e3 => andThen (leak q e3) fun y e4 => zipR x y e4) := po
      show Po t (cn X t) W Fr σ H0 (rrDs (cn X t) Fr σ) _ (andThen (andThen (mb e2) fun q e3 => andThen (leak q e3) fun y e4 => .ok [y] e4) fun ds e5 => .ok (x :: ds) e5)
      cases q2 : mb e2 with
      | bad => rw [q2] at po; exact po.elim
      | ex k' p' e3 => rw [q2] at po; exact po
      | ok rb e3 =>
        rw [q2] at po
        have po : Po t (cn X t) W Fr σ H0 (rrI (cn X t) Fr σ) Q (andThen (leak rb e3) fun y e4 => zipR x y e4) := po
        show Po t (cn X t) W Fr σ H0 (rrDs (cn X t) Fr σ) _ (andThen (andThen (leak rb e3) fun y e4 => .ok [y] e4) fun ds e5 => .ok (x :: ds) e5)
        cases q3 : leak rb e3 with
        | bad => rw [q3] at po; exact po.elim
        | ex k' p' e4 => rw [q3] at po; exact po
        | ok y e4 =>
          rw [q3] at po
          rintro vs H1 H' s ⟨⟨as1, rp1⟩, v, vs', rfl, hx, w, vs2, rfl, hy, k2⟩
          have k2 : vs2 = [] := k2
          subst k2
          match x, y, po, hx, hy with
          | .lst xs, .lst ys, po, hx, hy =>
            obtain ⟨_, a1, ws1, rfl, g1, g2⟩ := hx
            obtain ⟨_, a2, ws2, rfl, g3, g4⟩ := hy
            exact ⟨a1, a2, ws1, ws2, rfl, SqL.same rp1.sub g1, SqL.same rp1.sub g3, po _ H1 H' s ⟨⟨as1, rp1⟩, wk_zip g1 g3 g2 g4⟩⟩
end
/-! ### names forgotten -/
def sDrop (m : MS) (is : List Nat) : MS := fun e => match m e with
  | .nx e1 => .nx (wipeE e1 is)
  | .ct e1 => .ct (wipeE e1 is)
  | r => r
section
variable {X : Cx} {t : Tb} {W : WX} {P : Nat → Bool} {st : Stmt} {sts : List Stmt} {m : MS}
theorem Rp.dropAll {c : Cn} {H0 Fr H : Hp} {σ : St} : ∀ {is : List Nat} {e : Env} {as : Nat → List Addr}, Rp c H0 Fr H σ e as → ∃ as', Rp c H0 Fr H σ (wipeE e is) as'
  | [], e, as, r => ⟨as, r⟩
  | i :: is, e, as, r => Rp.dropAll (is := is) (r.drop i)
theorem PoS.drop {Fr H0 : Hp} {σ : St} {D : Ends} {c : Cn} {e : Env} {is : List Nat} (po : PoS t c W P Fr σ H0 D (sDrop m is e)) : PoS t c W P Fr σ H0 D (m e) := by
  unfold sDrop at po
  cases q : m e with
  | nx e1 =>
    rw [q] at po
    intro σ' H1 H' as s p rp
    obtain ⟨as2, rp2⟩ := Rp.dropAll (is := is) rp
    exact po σ' H1 H' as2 s p rp2
  | ct e1 =>
    rw [q] at po
    intro σ' H1 H' as s p rp
    obtain ⟨as2, rp2⟩ := Rp.dropAll (is := is) rp
    exact po σ' H1 H' as2 s p rp2
  | bk e1 => rw [q] at po; exact po
  | rt o e1 => rw [q] at po; exact po
  | ex k p e1 => rw [q] at po; exact po
  | bad => rw [q] at po; exact po
theorem ss_drop (is : List Nat) (h : SS X t W P st m) : SS X t W P st (sDrop m is) := PS.imp h fun D σ H ⟨e, H0, Fr, as, rp, po⟩ => ⟨e, H0, Fr, as, rp, po.drop⟩
theorem sss_drop (is : List Nat) (h : SSs X t W P sts m) : SSs X t W P sts (sDrop m is) := PSs.imp h fun D σ H ⟨e, H0, Fr, as, rp, po⟩ => ⟨e, H0, Fr, as, rp, po.drop⟩
end
/-! ### for the generator -/
theorem code_of {K : PySem.W.Frag} {x qual : Str} {params : Arguments} {body : List Stmt} {scope : Scope} {dvs : List V} {kws : List (Str × V)} {n : Str} {fd : FuncData} {cdv : Value} (F : FunD K x qual params body scope dvs kws (He.ga K n) fd) (h : cdv = fd.code) (hc : PySem.W.codeIn K cdv qual = true) : cdv = .ref (He.cT K (n, none)).1 := by
  obtain ⟨oc, od, dV, kV, doc, pm, an, cdv', ct, osl, rfl, lk, hcd, _, _⟩ := F.ex
  obtain ⟨c, e⟩ := He.codeIn_ref hc
  have e2 : (PySem.W.fnOf x qual params body scope dV kV doc pm an cdv' ct).code = Value.ref c := h.symm.trans e
  rw [e]
  exact congrArg Value.ref (He.codeOf_eq (p := (n, none)) lk e2).symm
end F
end

section
set_option Elab.async false
set_option linter.all false
set_option maxRecDepth 100000
set_option maxHeartbeats 2000000
/-! F layer, part T: lambdas that capture nothing, as values. -/
namespace F
open PySem PySem.Spec PyProof.Rows L2
/-- a lambda's words and its code object -/
structure LF where
  qual : Str
  params : Arguments
  body : Expr
  scope : Scope
  c : Addr
abbrev LF.nf (F : LF) : NdefX.NF := ⟨"<lambda>", F.qual, F.params, [], F.scope, [], F.c⟩
/-- the object at f is it -/
def FnL (f : Addr) (F : LF) : HO := .ext fun h => ∃ (pm ctv : Value), h.get? f = some (PySem.W.kla_obj "<lambda>" F.qual F.params F.body F.scope [] pm F.c ctv)
/-- the object at f is a lambda with the captured cells cl -/
def FnLc (f : Addr) (F : LF) (cl : List (Str × Addr)) : HO := .ext fun h => ∃ (pm ctv : Value), h.get? f = some (PySem.W.kla_obj "<lambda>" F.qual F.params F.body F.scope cl pm F.c ctv)
section
variable {X : Cx} {pins : List (Addr × Obj)} {σ : L2.St} {H : Hp} {s : Shared}
end
/-! ### a lambda called -/
section
variable {P : Program} {w : World} {A : Around} {s : Shared} {H : Hp}
end
/-! ### what it promises -/
structure LOk (P : Program) (w : World) (K : PySem.W.Frag) (mg : Str → Option Value) (base : Heap) (CX : CXT) (k : Nat) (F : LF) (n : Nat) (sp : Sp) : Prop where
  len : ∀ vs H Q E, sp vs H Q E → vs.length = n
  run : ∀ (A : Around) (outer : List PySem.Env) (s : Shared) (H : Hp) (f : Addr) (us : List Value) (vs : List V) (Q : VK) (E : XK), Room k A → A.guards = some [] → Env0 P w K mg base A outer s H → H f = some (FnL f F) → H F.c = some (LamX.CodeO F.c F.qual) →
    Vals vs us → sp vs H Q E → codeAny (model P w) A (.call (.ref f) ⟨us, []⟩) (CR CX outer P w H s Q E) s
section
variable {CX : CXT} {P : Program} {w : World} {K : PySem.W.Frag} {mg : Str → Option Value} {base : Heap} {N ps : List Str} {F : LF} {k j n : Nat} {sp : Sp}
theorem LOk.mono (o : LOk P w K mg base CX j F n sp) (h : j ≤ k) : LOk P w K mg base CX k F n sp := ⟨o.len, fun A outer s H f us vs Q E hr => o.run A outer s H f us vs Q E (hr.mono h)⟩
end
section
variable {X : Cx} {CX : CXT} {mk : Nat → Addr → LF} {i j k : Nat} {ar : Nat → Nat} {x : Str} {sp : Nat → Sp} {E : St → XK} {t : TA} {e : Expr} {es : List Expr} {p pos : Pos}
end
end F
end

section
set_option Elab.async false
set_option linter.all false
set_option maxRecDepth 100000
set_option maxHeartbeats 2000000
/-! F layer, part U: lambdas as plain data. -/
namespace F
open PySem PySem.Spec PyProof.Rows L2
section
variable {X : Cx} {t : Tb} {W : WX}
/-! ### calls -/
def mCallV (i : Nat) (Fs : Nat → Fn) (ms : List (M R)) : M R := fun e => match slot e i with
  | some (.sh (.ex 1 (.int n))) => mCall (Fs n.toNat) [] [] ms e
  | _ => .bad
end
end F
end

section
set_option Elab.async false
set_option linter.all false
set_option autoImplicit false
set_option maxRecDepth 100000
set_option maxHeartbeats 2000000
/-! F layer, part V: dicts: stores, keys walked, list of the values. -/
namespace F
open PySem PySem.Spec PyProof.Rows L2
/-! ### d[k] = v, d a name's own dict -/
def putD (l : List (Ky × D)) (k : Ky) (d : D) : List (Ky × D) := if (l.any fun p => decide (p.1 = k)) = true then l.map (fun p => if p.1 = k then (p.1, d) else p) else l ++ [(k, d)]
def sPut (i : Nat) (k v : M R) : MS := fun e => sOf (v e) fun r e1 => sOf (leak r e1) fun d e2 => match slot e2 i with
  | some _ => sOf (k e2) fun q e3 => ofOS (peek q e3) fun j => ofOS (keyD j) fun kk => (match slot e3 i with
    | some (.fd l) => if l.length < lim then .nx (e3.set i (some (.fd (putD l kk d)))) else .bad
    | _ => .bad)
  | none => .bad
section
variable {c : Cn} {H : Hp}
theorem DatK.app : ∀ {l m : List (Ky × D)} {kvs ws : List (Key × V)}, DatK c H l kvs → DatK c H m ws → DatK c H (l ++ m) (kvs ++ ws)
  | [], m, kvs, ws, h, h2 => by
    have h : kvs = [] := h
    subst h
    exact h2
  | (k, d) :: l, m, kvs, ws, ⟨v, s, h1, h2, h3⟩, h4 => by
    subst h1
    exact ⟨v, s ++ ws, rfl, h2, DatK.app h3 h4⟩
theorem DatK.any {q : Ky} : ∀ {l : List (Ky × D)} {kvs : List (Key × V)}, DatK c H l kvs → (kvs.any fun kv => decide (kv.1 = kyK q)) = (l.any fun p => decide (p.1 = q))
  | [], kvs, h => by
    have h : kvs = [] := h
    subst h
    rfl
  | (k, d) :: l, kvs, ⟨v, s, h1, h2, h3⟩ => by
    subst h1
    simp only [List.any_cons, DatK.any h3]
    congr 1
    exact decide_eq_decide.mpr ⟨fun z => kyK_inj z, fun z => by rw [z]⟩
theorem DatK.mapP {q : Ky} {d : D} {v : V} (hd : Dat c H d v) : ∀ {l : List (Ky × D)} {kvs : List (Key × V)}, DatK c H l kvs → DatK c H (l.map (fun p => if p.1 = q then (p.1, d) else p)) (kvs.map (fun kv => if kv.1 = kyK q then (kv.1, v) else kv))
  | [], kvs, h => by
    have h : kvs = [] := h
    subst h
    rfl
  | (k, d') :: l, kvs, ⟨w, s, h1, h2, h3⟩ => by
    subst h1
    simp only [List.map_cons]
    by_cases z : k = q
    · rw [if_pos z, if_pos (by rw [z])]
      exact ⟨v, _, rfl, hd, DatK.mapP hd h3⟩
    · rw [if_neg z, if_neg fun y => z (kyK_inj y)]
      exact ⟨w, _, rfl, h2, DatK.mapP hd h3⟩
theorem DatK.put {q : Ky} {d : D} {v : V} (hd : Dat c H d v) {l : List (Ky × D)} {kvs : List (Key × V)} (h : DatK c H l kvs) : DatK c H (putD l q d) (putK kvs (kyK q) v) := by
  unfold putD putK
  rw [h.any]
  by_cases z : (l.any fun p => decide (p.1 = q)) = true
  · rw [if_pos z, if_pos z]
    exact DatK.mapP hd h
  · rw [if_neg z, if_neg z]
    exact h.app ⟨v, [], rfl, hd, rfl⟩
theorem DatK.len : ∀ {l : List (Ky × D)} {kvs : List (Key × V)}, DatK c H l kvs → kvs.length = l.length
  | [], kvs, h => by
    have h : kvs = [] := h
    subst h
    rfl
  | (k, d) :: l, kvs, ⟨v, s, h1, h2, h3⟩ => by
    subst h1
    simp [DatK.len h3]
end
section
variable {X : Cx} {t : Tb} {W : WX} {P : Nat → Bool} {a b k v : Expr} {ma mb mk mv : M R} {pos apos cpos p1 p : Pos} {i : Nat}
/-! ### for k in d: the dict stays as it is from now on -/
def keysD : Ky × D → D
  | (.i n, _) => .int n
  | (.s x, _) => .str x
def kyOk (p : Ky × D) : Bool := match p.1 with | .i _ => true | .s x => decide (x.length ≤ lim)
def mItK (i : Nat) : M (List D) := fun e => match F.slot e i with
  | some (.fd l) => if (l.all kyOk) = true then .ok (l.map keysD) (e.set i (some (.sh (.dct l)))) else .bad
  | _ => .bad
/-! ### list(d.values()) -/
end
end F
end

section
set_option Elab.async false
set_option linter.all false
set_option autoImplicit false
set_option maxRecDepth 100000
set_option maxHeartbeats 2000000
/-! F layer, part W: errors of the program's own classes over ValueError, LookupError, OverflowError, RuntimeError: made, raised. -/
namespace F
open PySem PySem.Spec PyProof.Rows L2
def XB.n : XB → String | .V => "ValueError" | .L => "LookupError" | .O => "OverflowError" | .R => "RuntimeError"
def XB.it : XB → String | .V => "ValueError.__init__" | .L => "LookupError.__init__" | .O => "OverflowError.__init__" | .R => "RuntimeError.__init__"
theorem XB.ef : ∀ b : XB, PySem.ExcBaseFacts b.n b.nw b.it b.tl
  | .V => PySem.F.excBase_ValueError
  | .L => PySem.F.excBase_LookupError
  | .O => PySem.F.excBase_OverflowError
  | .R => PySem.F.excBase_RuntimeError
theorem XB.ps (v : Value) : ∀ b : XB, refuseLoop v "__setattr__" b.tl = pure ()
  | .V => by kernel_rfl
  | .L => by kernel_rfl
  | .O => by kernel_rfl
  | .R => by kernel_rfl
theorem XB.ob : ∀ b : XB, b.tl.contains (.type "object") = true
  | .V => by decide +kernel
  | .L => by decide +kernel
  | .O => by decide +kernel
  | .R => by decide +kernel
theorem XB.ty : ∀ b : XB, typeOf (.type b.n) = pure (.type "type")
  | .V => by kernel_rfl
  | .L => by kernel_rfl
  | .O => by kernel_rfl
  | .R => by kernel_rfl
theorem XB.st : ∀ b : XB, Manifest.isStub b.n = false
  | .V => by decide +kernel
  | .L => by decide +kernel
  | .O => by decide +kernel
  | .R => by decide +kernel
theorem XB.ih : ∀ b : XB, PySem.W.handedIn (.builtin b.it) = true
  | .V => by decide +kernel
  | .L => by decide +kernel
  | .O => by decide +kernel
  | .R => by decide +kernel
theorem XB.d1 : ∀ b : XB, Str.ofString b.n ≠ ("__name__" : Str)
  | .V => by decide
  | .L => by decide
  | .O => by decide
  | .R => by decide
theorem XB.d2 : ∀ b : XB, ((Str.ofString b.n) == ("__debug__" : Str)) = false
  | .V => by decide
  | .L => by decide
  | .O => by decide
  | .R => by decide
theorem XB.ini (K : PySem.W.Frag) : ∀ b : XB, PySem.W.findCls K (.type b.n) (.type "type") "__init__" = some (.val (.builtin b.it))
  | .V => by kernel_rfl
  | .L => by kernel_rfl
  | .O => by kernel_rfl
  | .R => by kernel_rfl
/-- what the written part says of the class -/
structure Oex (K : PySem.W.Frag) (b : XB) (C : Addr) : Prop where
  cls : ∃ nm q N bs sn sub ab col dd k0 k1 k2 k3 k5, K.lookup C = some (excClassObj nm q C N bs b.tl true sn sub ab col dd k0 k1 k2 k3 k5 b.nw)
  sa : PySem.W.findIn K (.ref C) "__setattr__" = some (some (.builtin "object.__setattr__"))
  exC : PySem.W.subIn K (.ref C) (.type "BaseException") = some true
  tyC : PySem.W.typeIn K (.ref C) = some (.type "type")
  kC : PySem.W.keepIn K (.ref C) = true
section
open Builtin Builtin.ObjectAttr
end
section
variable {X : Cx} {pins : List (Addr × Obj)} {σ : St} {H : Hp} {s : Shared} {b : XB} {a C : Addr} {f : Str} {y : V} {u : Value} {E : Value → Shared → Prop} {A : Around}
end
section
variable {X : Cx} {o e : Expr} {es : List Expr} {to te : TE} {ta : TA} {f : Str} {p p' p1 p2 pos : Pos}
end
/-- what an __init__ that keeps one value promises -/
def spI (C : Addr) (f : Str) : Sp := fun vs H Q _ => ∃ a x, vs = [.ref a, x] ∧ H a = some (exo a C none) ∧ ∀ dx, H dx = none → dx ≠ a → Q .non (upd (upd H dx (exd dx [(f, x)])) a (exo a C (some dx)))
section
variable {P : Program} {w : World} {K : PySem.W.Frag} {mg : Str → Option Value} {base : Heap}
end
/-- a class of errors whose __init__ keeps one value -/
structure XcOk (P : Program) (w : World) (K : PySem.W.Frag) (mg : Str → Option Value) (base : Heap) (t : Tb) (k : Nat) (x : Str) : Prop where
  T : ∃ b, Oex K b (t.cls k)
  ini : ∃ fI fd y, PySem.W.findIn K (.ref (t.cls k)) "__init__" = some (some (.ref fI)) ∧ PySem.W.typeIn K (.ref fI) = some (.type "function") ∧ FnOk P w K mg base (L2.CX P w) 1 fI fd ["self", y] (spI (t.cls k) (t.xf k)) ∧ Binds K fd ["self", y] []
  gC : mg x = some (.ref (t.cls k))
section
variable {X : Cx} {t : Tb} {W : WX} {P : Nat → Bool} {a : Expr} {ma : M R} {pos pos' p : Pos}
end
end F
end

section
set_option Elab.async false
set_option linter.all false
set_option autoImplicit false
set_option maxRecDepth 100000
set_option maxHeartbeats 2000000
/-! F layer, part X: try: body / except C as e: suite. -/
namespace F
open PySem PySem.Spec PyProof.Rows L2
/-! ### data without some kinds of described things -/
mutual
def D.exs (g : Nat → Bool) : D → Bool
  | .non | .bl _ | .int _ | .str _ => true
  | .tup l | .lst l | .obj _ l => exsL g l
  | .dct l => exsK g l
  | .ex k _ => g k
def exsL (g : Nat → Bool) : List D → Bool
  | [] => true
  | d :: ds => d.exs g && exsL g ds
def exsK (g : Nat → Bool) : List (Ky × D) → Bool
  | [] => true
  | (_, d) :: ds => d.exs g && exsK g ds
end
mutual
def O.exs (g : Nat → Bool) : O → Bool
  | .sh d => d.exs g
  | .fl l => exsL g l
  | .fd l => exsK g l
  | .fo _ l => exsO g l
def exsO (g : Nat → Bool) : List O → Bool
  | [] => true
  | o :: os => o.exs g && exsO g os
end
mutual
theorem D.exs_all : ∀ d : D, d.exs (fun _ => true) = true
  | .non => rfl
  | .bl _ => rfl
  | .int _ => rfl
  | .str _ => rfl
  | .tup l => exsL_all l
  | .lst l => exsL_all l
  | .obj _ l => exsL_all l
  | .dct l => exsK_all l
  | .ex k _ => rfl
theorem exsL_all : ∀ l : List D, exsL (fun _ => true) l = true
  | [] => rfl
  | d :: ds => by
    show (d.exs _ && exsL _ ds) = true
    rw [D.exs_all d, exsL_all ds]
    rfl
theorem exsK_all : ∀ l : List (Ky × D), exsK (fun _ => true) l = true
  | [] => rfl
  | (_, d) :: ds => by
    show (d.exs _ && exsK _ ds) = true
    rw [D.exs_all d, exsK_all ds]
    rfl
end
mutual
theorem O.exs_all : ∀ o : O, o.exs (fun _ => true) = true
  | .sh d => D.exs_all d
  | .fl l => exsL_all l
  | .fd l => exsK_all l
  | .fo _ l => exsO_all l
theorem exsO_all : ∀ l : List O, exsO (fun _ => true) l = true
  | [] => rfl
  | o :: os => by
    show (o.exs _ && exsO _ os) = true
    rw [O.exs_all o, exsO_all os]
    rfl
end
section
variable {K : PySem.W.Frag} {cl : Nat → Addr} {fl : Nat → List Str} {tb : List (Addr × Option Str)} {ex ex' : Nat → D → V → Hp → Prop} {m m' r r'} {g : Nat → Bool}
theorem bAnd {a b : Bool} (h : (a && b) = true) : a = true ∧ b = true := Bool.and_eq_true_iff.mp h
mutual
theorem Dat.cv (h : ∀ k d v H, g k = true → ex k d v H → ex' k d v H) {H : Hp} : ∀ (d : D) (v : V), d.exs g = true → Dat ⟨K, cl, fl, tb, ex, m, r⟩ H d v → Dat ⟨K, cl, fl, tb, ex', m', r'⟩ H d v
  | .non, _, _, x => x
  | .bl _, _, _, x => x
  | .int _, _, _, x => x
  | .str _, _, _, x => x
  | .tup l, _, e, ⟨hl, a, vs, h1, h2, h3⟩ => ⟨hl, a, vs, h1, h2, Dats.cv h l vs e h3⟩
  | .lst l, _, e, ⟨hl, a, vs, h1, h2, h3⟩ => ⟨hl, a, vs, h1, h2, Dats.cv h l vs e h3⟩
  | .dct l, _, e, ⟨hl, a, vs, h1, h2, h3⟩ => ⟨hl, a, vs, h1, h2, DatK.cv h l vs e h3⟩
  | .obj k l, _, e, ⟨a, dx, fs, h1, h2, h3, h4⟩ => ⟨a, dx, fs, h1, h2, h3, Dats.cv h l _ e h4⟩
  | .ex k d, _, e, x => h k d _ _ e x
theorem Dats.cv (h : ∀ k d v H, g k = true → ex k d v H → ex' k d v H) {H : Hp} : ∀ (l : List D) (vs : List V), exsL g l = true → Dats ⟨K, cl, fl, tb, ex, m, r⟩ H l vs → Dats ⟨K, cl, fl, tb, ex', m', r'⟩ H l vs
  | [], _, _, x => x
  | d :: ds, _, e, ⟨v, q, h1, h2, h3⟩ => ⟨v, q, h1, Dat.cv h d v (bAnd e).1 h2, Dats.cv h ds q (bAnd e).2 h3⟩
theorem DatK.cv (h : ∀ k d v H, g k = true → ex k d v H → ex' k d v H) {H : Hp} : ∀ (l : List (Ky × D)) (vs : List (Key × V)), exsK g l = true → DatK ⟨K, cl, fl, tb, ex, m, r⟩ H l vs → DatK ⟨K, cl, fl, tb, ex', m', r'⟩ H l vs
  | [], _, _, x => x
  | (k, d) :: ds, _, e, ⟨v, q, h1, h2, h3⟩ => ⟨v, q, h1, Dat.cv h d v (bAnd e).1 h2, DatK.cv h ds q (bAnd e).2 h3⟩
end
mutual
theorem OwnR.cv (h : ∀ k d v H, g k = true → ex k d v H → ex' k d v H) {H0 H : Hp} : ∀ (o : O) (v : V) (as : List Addr), o.exs g = true → OwnR ⟨K, cl, fl, tb, ex, m, r⟩ H0 H o v as → OwnR ⟨K, cl, fl, tb, ex', m', r'⟩ H0 H o v as
  | .sh d, _, _, e, ⟨h1, h2⟩ => ⟨h1, Dat.cv h d _ e h2⟩
  | .fl l, _, _, e, ⟨hl, a, vs, h1, h2, h3, h4⟩ => ⟨hl, a, vs, h1, h2, h3, Dats.cv h l vs e h4⟩
  | .fd l, _, _, e, ⟨hl, a, vs, h1, h2, h3, h4⟩ => ⟨hl, a, vs, h1, h2, h3, DatK.cv h l vs e h4⟩
  | .fo k l, _, _, e, ⟨a, dx, fs, bs, h1, h2, h3, h4, h5, h6⟩ => ⟨a, dx, fs, bs, h1, h2, h3, h4, h5, OwnRs.cv h l _ bs e h6⟩
theorem OwnRs.cv (h : ∀ k d v H, g k = true → ex k d v H → ex' k d v H) {H0 H : Hp} : ∀ (os : List O) (vs : List V) (as : List Addr), exsO g os = true → OwnRs ⟨K, cl, fl, tb, ex, m, r⟩ H0 H os vs as → OwnRs ⟨K, cl, fl, tb, ex', m', r'⟩ H0 H os vs as
  | [], _, _, _, x => x
  | o :: os, _, _, e, ⟨v, q, bs, cs, h1, h2, h3, h4⟩ => ⟨v, q, bs, cs, h1, h2, OwnR.cv h o v bs (bAnd e).1 h3, OwnRs.cv h os q cs (bAnd e).2 h4⟩
end
theorem Rp.cv (h : ∀ k d v H, g k = true → ex k d v H → ex' k d v H) {H0 Fr H : Hp} {σ : St} {e : Env} {as : Nat → List Addr} (rp : Rp ⟨K, cl, fl, tb, ex, m, r⟩ H0 Fr H σ e as) (he : ∀ i o, slot e i = some o → o.exs g = true) : Rp ⟨K, cl, fl, tb, ex', m', r'⟩ H0 Fr H σ e as :=
  ⟨rp.len, rp.sub, rp.fr, fun i o q => let ⟨v, h1, h2⟩ := rp.own i o q; ⟨v, h1, OwnR.cv h o v _ (he i o q) h2⟩, rp.off, rp.sep, rp.nd, rp.emp, ⟨rp.tab.at_, rp.tab.n0, rp.tab.nF, rp.tab.na⟩⟩
end
/-! ### try -/
def g9 (k : Nat) : Bool := k != 9
def cleanE (e : Env) : Env := e.map fun s => match s with
  | some o => if o.exs g9 = true then some o else none
  | none => none
theorem cleanE_len (e : Env) : (cleanE e).length = e.length := List.length_map _
theorem cleanE_slot {e : Env} {i : Nat} {o : O} (h : slot (cleanE e) i = some o) : slot e i = some o ∧ o.exs g9 = true := by
  unfold slot cleanE at h
  rw [List.getElem?_map] at h
  unfold slot
  cases q : e[i]? with
  | none => rw [q] at h; cases h
  | some s =>
    rw [q] at h
    cases s with
    | none => cases h
    | some o1 =>
      simp only [Option.map_some] at h
      by_cases z : o1.exs g9 = true
      · rw [if_pos z] at h
        cases h
        exact ⟨rfl, z⟩
      · rw [if_neg z] at h
        cases h
/-- behind the suite -/
def sufEnd (i : Nat) : SR → SR
  | .nx e => .nx (cleanE (e.set i none))
  | .bk e => .bk (cleanE (e.set i none))
  | .ct e => .ct (cleanE (e.set i none))
  | .rt o e => if o.exs g9 = true then .rt o (cleanE (e.set i none)) else .bad
  | .ex _ _ _ => .bad
  | .bad => .bad
/-- the caught error, as a thing described -/
def sufEx (t : Tb) (K : PySem.W.Frag) (a : Addr) (cls : Value) (dx : Option Addr) (k : Nat) (d : D) (v : V) (H : Hp) : Prop :=
  t.ex k d v H ∨ (k = 9 ∧ ∃ (j : Nat) (p : D), d = .tup [.int (j : Nat), p] ∧ v = .ref a ∧ cls = .ref (t.cls j) ∧ ((∃ dd vp, dx = some dd ∧ H dd = some (.xd [(t.xf j, vp)]) ∧ Dat ⟨K, t.cls, t.fld, t.tabs, t.ex, t.exM, t.exR⟩ H p vp) ∨ (dx = none ∧ p = .non ∧ t.xf j = Str.empty)))
def sufT (t : Tb) (K : PySem.W.Frag) (a : Addr) (cls : Value) (dx : Option Addr) : Tb := ⟨t.cls, t.fld, t.xf, t.tabs, sufEx t K a cls dx, fun k d v H H' s h => by
    rcases h with h | ⟨h1, j, p, h2, h3, h4, h5⟩
    · exact .inl (t.exM k d v H H' s h)
    · refine .inr ⟨h1, j, p, h2, h3, h4, ?_⟩
      rcases h5 with ⟨dd, vp, h5, h6, h7⟩ | h5
      · exact .inl ⟨dd, vp, h5, s _ _ h6, Dat.mono s _ _ h7⟩
      · exact .inr h5, fun k d v H h => by
    rcases h with h | ⟨h1, j, p, h2, h3, h4, h5⟩
    · exact t.exR k d v H h
    · exact ⟨a, h3⟩⟩
section
variable {X : Cx} {t : Tb} {W : WX} {P : Nat → Bool} {pos pos' np : Pos}
theorem Rp.up {t : Tb} {K : PySem.W.Frag} {a : Addr} {cls : Value} {dx : Option Addr} {H0 Fr H : Hp} {σ : St} {e : Env} {as : Nat → List Addr} (rp : Rp ⟨K, t.cls, t.fld, t.tabs, t.ex, t.exM, t.exR⟩ H0 Fr H σ e as) :
    Rp ⟨K, (sufT t K a cls dx).cls, (sufT t K a cls dx).fld, (sufT t K a cls dx).tabs, (sufT t K a cls dx).ex, (sufT t K a cls dx).exM, (sufT t K a cls dx).exR⟩ H0 Fr H σ e as :=
  Rp.cv (g := fun _ => true) (fun k d v H _ h => .inl h) rp fun _ _ _ => O.exs_all _
theorem sufDown {t : Tb} {K : PySem.W.Frag} {a : Addr} {cls : Value} {dx : Option Addr} : ∀ k d v H, g9 k = true → (sufT t K a cls dx).ex k d v H → t.ex k d v H := fun k d v H hg h => by
  rcases h with h | ⟨h, _⟩
  · exact h
  · subst h
    cases hg
theorem Rp.clean {t : Tb} {K : PySem.W.Frag} {a : Addr} {cls : Value} {dx : Option Addr} {H0 Fr H : Hp} {σ : St} {e : Env} {as : Nat → List Addr} {i : Nat}
    (rp : Rp ⟨K, (sufT t K a cls dx).cls, (sufT t K a cls dx).fld, (sufT t K a cls dx).tabs, (sufT t K a cls dx).ex, (sufT t K a cls dx).exM, (sufT t K a cls dx).exR⟩ H0 Fr H σ e as) :
    ∃ as', Rp ⟨K, t.cls, t.fld, t.tabs, t.ex, t.exM, t.exR⟩ H0 Fr H (σ.set i none) (cleanE (e.set i none)) as' := by
  obtain ⟨as1, r1⟩ := rp.re (σ' := σ.set i none) (e' := cleanE (e.set i none)) (by rw [cleanE_len]; simpa using rp.len) id (fun j o q => by
    obtain ⟨h1, _⟩ := cleanE_slot q
    obtain ⟨hj, h2⟩ := slot_none h1
    exact ⟨h2, List.getElem?_set_ne (Ne.symm hj)⟩) (fun i j _ _ _ _ h => h)
  exact ⟨as1, Rp.cv sufDown r1 fun j o q => (cleanE_slot q).2⟩
theorem Rp.clean0 {t : Tb} {K : PySem.W.Frag} {a : Addr} {cls : Value} {dx : Option Addr} {H0 Fr H : Hp} {σ : St} {e : Env} {as : Nat → List Addr} {i : Nat}
    (rp : Rp ⟨K, (sufT t K a cls dx).cls, (sufT t K a cls dx).fld, (sufT t K a cls dx).tabs, (sufT t K a cls dx).ex, (sufT t K a cls dx).exM, (sufT t K a cls dx).exR⟩ H0 Fr H σ e as) :
    ∃ as', Rp ⟨K, t.cls, t.fld, t.tabs, t.ex, t.exM, t.exR⟩ H0 Fr H σ (cleanE (e.set i none)) as' := by
  obtain ⟨as1, r1⟩ := rp.re (σ' := σ) (e' := cleanE (e.set i none)) (by rw [cleanE_len]; simpa using rp.len) id (fun j o q => by
    obtain ⟨h1, _⟩ := cleanE_slot q
    obtain ⟨hj, h2⟩ := slot_none h1
    exact ⟨h2, rfl⟩) (fun i j _ _ _ _ h => h)
  exact ⟨as1, Rp.cv sufDown r1 fun j o q => (cleanE_slot q).2⟩
/-! ### e.f -/
end
end F
end

section
set_option Elab.async false
set_option linter.all false
set_option autoImplicit false
set_option maxRecDepth 100000
set_option maxHeartbeats 4000000
/-! F layer, part Y: isinstance of a caught error that has fields. -/
namespace F
open PySem PySem.Spec PyProof.Rows L2
section
open PySem.W PySem.Calls
variable {prog : Program} {w : World} {K : Frag} {x D0 : Addr} {ox : Obj}
end
section
variable {X : Cx} {t : Tb} {a : Addr} {oe : Obj} {cls : Value} {d : Option Addr} {pn : List (Addr × Obj)}
end
end F
end

section
set_option Elab.async false
set_option linter.all false
set_option autoImplicit false
set_option maxRecDepth 100000
set_option maxHeartbeats 2000000
/-! F layer, part Z: a lambda's promise by its body. -/
namespace F
open PySem PySem.Spec PyProof.Rows L2
section
variable {P : Program} {w : World} {K : PySem.W.Frag} {mg : Str → Option Value} {base : Heap} {t : Tb}
end
end F
end

section
set_option Elab.async false
set_option linter.all false
set_option autoImplicit false
set_option maxRecDepth 100000
set_option maxHeartbeats 4000000
/-! F layer, the end: the law's def is called where no repr is under way. -/
namespace F
open PySem PySem.Spec PyProof.Rows L2 LamX
section
variable {P : Program} {w : World} {K : PySem.W.Frag} {mg mb : Str → Option Value} {CX : CXT} {k : Nat} {fa a : Addr} {cs : List (Addr × Addr)} {fd : FuncData} {x : Str} {sp : Sp} {st : Shared} {vs : List Value} {ns : List Int}
/-- what the run starts from -/
structure Start (K : PySem.W.Frag) (mg mb : Str → Option Value) (cs : List (Addr × Addr)) (st : Shared) (a : Addr) (vs : List Value) (ns : List Int) : Prop where
  kin : K.In st.heap
  gns : st.heap.Ns mainGlobals mg
  bns : st.heap.Ns builtinsNs mb
  blt : ∀ y : Str, y ≠ "__name__" → mb y = bootBuiltins y
  nol : st.heap.NoLimit
  gen : st.gens = #[]
  tab : ∀ p ∈ cs, st.heap.get? p.2 = some { cls := .none, data := .fields #[] }
  tabK : ∀ p ∈ cs, K.lookup p.2 = none
  code : ∀ p ∈ cs, PySem.W.CodeHd st.heap p.1 p.2
  bm : ∃ (bm : Addr) (ob : Obj), mg "__builtins__" = some (.ref bm) ∧ bm ≠ builtinsNs ∧ st.heap.get? bm = some ob ∧ ob.cls = .type "module" ∧ ob.dict = some builtinsNs ∧ ob.data = .plain
  lst : st.heap.get? a = some { cls := .type "list", data := .seq vs.toArray }
  nums : IntsAre vs ns
  len : ns.length ≤ sizeLine
variable (T : Start K mg mb cs st a vs ns)
theorem Start.isTab {b : Addr} (T : Start K mg mb cs st a vs ns) (h : b ∈ cs.map (·.2)) : st.heap.get? b = some { cls := .none, data := .fields #[] } := by
  obtain ⟨p, hp, rfl⟩ := List.mem_map.mp h
  exact T.tab p hp
theorem Start.noTab (T : Start K mg mb cs st a vs ns) : a ∉ cs.map (·.2) := fun h => by
  have e := T.isTab h
  rw [T.lst] at e
  cases e
/-- the tracked heap: the tables, and the script's list or not -/
structure Track (K : PySem.W.Frag) (cs : List (Addr × Addr)) (st : Shared) (a : Addr) (ns : List Int) (P : Program) (w : World) (H : Hp) : Prop where
  tb : ∀ p ∈ cs, H p.2 = some (.tbl #[])
  sq : SqL K H a (ns.map V.int)
  ok : HOk P w H st.heap
  sup : ∀ b, H b ≠ none → b = a ∨ b ∈ cs.map (·.2)
  frz : ∀ b, H b = none ∨ b ∈ cs.map (·.2) ∨ ∃ o xs, H b = some (.frz o (.lst xs))
  own : H a ≠ none → K.lookup a = none
theorem track (T : Start K mg mb cs st a vs ns) (P : Program) (w : World) : ∃ H, Track K cs st a ns P w H := by
  have rv := vals_ints T.nums
  have nT := T.noTab
  have tne : ∀ p ∈ cs, p.2 ≠ a := fun p hp z => nT (z ▸ List.mem_map.mpr ⟨p, hp, rfl⟩)
  have tin : ∀ p ∈ cs, p.2 ∈ cs.map (·.2) := fun p hp => List.mem_map.mpr ⟨p, hp, rfl⟩
  cases q : K.lookup a with
  | some o =>
    have e := T.kin a o q
    rw [T.lst] at e
    cases e
    let H : Hp := fun b => if b ∈ cs.map (·.2) then some (.tbl #[]) else none
    have inn : ∀ {b}, b ∈ cs.map (·.2) → H b = some (.tbl #[]) := fun h => if_pos h
    have out : ∀ {b}, b ∉ cs.map (·.2) → H b = none := fun h => if_neg h
    refine ⟨H, fun p hp => inn (tin p hp), .inr ⟨_, vs.toArray, _, q, rfl, rfl, rfl, by rw [List.size_toArray, T.nums.length]; exact T.len, by simpa using rv⟩, fun b u z => ?_, fun b z => ?_, fun b => ?_, fun z => absurd (out nT) z⟩
    · by_cases hb : b ∈ cs.map (·.2)
      · rw [inn hb] at z
        cases z
        exact T.isTab hb
      · rw [out hb] at z
        cases z
    · by_cases hb : b ∈ cs.map (·.2)
      · exact .inr hb
      · exact absurd (out hb) z
    · by_cases hb : b ∈ cs.map (·.2)
      · exact .inr (.inl hb)
      · exact .inl (out hb)
  | none =>
    let L : HO := .frz { cls := .type "list", data := .seq vs.toArray } (.lst (ns.map V.int))
    let H : Hp := fun b => if b = a then some L else if b ∈ cs.map (·.2) then some (.tbl #[]) else none
    have at_ : H a = some L := if_pos rfl
    have inn : ∀ {b}, b ≠ a → b ∈ cs.map (·.2) → H b = some (.tbl #[]) := fun h1 h2 => (if_neg h1).trans (if_pos h2)
    have out : ∀ {b}, b ≠ a → b ∉ cs.map (·.2) → H b = none := fun h1 h2 => (if_neg h1).trans (if_neg h2)
    refine ⟨H, fun p hp => inn (tne p hp) (tin p hp), .inl (.inr ⟨_, at_⟩), fun b u z => ?_, fun b z => ?_, fun b => ?_, fun _ => q⟩
    · by_cases h1 : b = a
      · subst h1
        rw [at_] at z
        cases z
        exact ⟨T.lst, by rw [List.length_map]; exact T.len, vs, _, rv, T.lst⟩
      · by_cases h2 : b ∈ cs.map (·.2)
        · rw [inn h1 h2] at z
          cases z
          exact T.isTab h2
        · rw [out h1 h2] at z
          cases z
    · by_cases h1 : b = a
      · exact .inl h1
      · by_cases h2 : b ∈ cs.map (·.2)
        · exact .inr h2
        · exact absurd (out h1 h2) z
    · by_cases h1 : b = a
      · exact .inr (.inr ⟨_, _, by rw [h1]; exact at_⟩)
      · by_cases h2 : b ∈ cs.map (·.2)
        · exact .inr (.inl h2)
        · exact .inl (out h1 h2)
theorem law_q (T : Start K mg mb cs st a vs ns) (hr : Room k callerA) (G : ∀ base : Heap, K.In base → base.Ns mainGlobals mg → (∀ p ∈ cs, TabB base mg p.1 p.2) → FnQ P w K mg base CX k fa fd [x] sp) (hbind : ∀ (s : Shared) (u : Value), BindsTo s fd ⟨[u], []⟩ [(x, u)])
    (hsp : ∀ H : Hp, (∀ p ∈ cs, H p.2 = some (.tbl #[])) → SqL K H a (ns.map V.int) → sp [.ref a] H (fun v _ => v = .bl true) fun _ _ _ => False) (hCX : ∀ H e s', CX [] H st (fun _ _ _ => False) e s' → False) :
    codeAny (model P w) callerA (.call (.ref fa) ⟨[.ref a], []⟩) (fun r s' => r = .ok (.ret (.bool true)) ∧ OldK st.heap s'.heap ∧ s'.os = st.os ∧ AllBare s'.gens) st := by
  obtain ⟨H, R⟩ := track T P w
  -- what is neither the script's list nor a table is not tracked
  have free : ∀ {b : Addr} {o : Obj}, st.heap.get? b = some o → (∀ us n, o.data ≠ .seq us n) → o.data ≠ .fields #[] → H b = none := fun {b o} e h1 h2 => Classical.byContradiction fun z => by
    rcases R.sup b z with rfl | hb
    · rw [T.lst] at e
      cases e
      exact h1 _ _ rfl
    · rw [T.isTab hb] at e
      cases e
      exact h2 rfl
  have low : ∀ {b : Addr} {o : Obj}, st.heap.get? b = some o → H b = none → (hidT st.heap H).get? b = some o := fun e n => hidT_get e n
  have nsL : ∀ {b : Addr} {m : Str → Option Value}, st.heap.Ns b m → (hidT st.heap H).Ns b m := fun {b m} ⟨o, es, ep, e, d, r⟩ =>
    ⟨o, es, ep, low e (free e (fun _ _ z => by rw [d] at z; cases z) (fun z => by rw [d] at z; cases z)), d, r⟩
  have kinL : K.In (hidT st.heap H) := fun b o e => low (T.kin b o e) (Classical.byContradiction fun z => by
    rcases R.sup b z with rfl | hb
    · rw [R.own z] at e
      cases e
    · obtain ⟨p, hp, rfl⟩ := List.mem_map.mp hb
      rw [T.tabK p hp] at e
      cases e)
  have modL : L2.Mod K mg (hidT st.heap H) := ⟨kinL, nsL T.gns, ⟨mb, nsL T.bns, T.blt⟩, let ⟨mc, h1, h2⟩ := T.nol; ⟨mc, nsL h1, h2⟩⟩
  have tabL : ∀ p ∈ cs, TabB (hidT st.heap H) mg p.1 p.2 := fun p hp => by
    have here := T.tab p hp
    refine ⟨?c, ?b, fun z => ?g⟩
    case c =>
      obtain ⟨o, us, file, tf, flags, tg, inF, text, tt, e1, r1, r2, r3, r4⟩ := T.code p hp
      refine ⟨o, us, file, tf, flags, tg, inF, text, tt, low e1 (free e1 (fun _ _ z => ?_) fun z => ?_), r1, r2, r3, r4⟩
      · rw [r2] at z; cases z
      · rw [r2] at z
        cases z
        simp at r3
    case b =>
      obtain ⟨bm, ob, b1, b2, b3, b4, b5, b6⟩ := T.bm
      refine ⟨bm, ob, b1, b2, fun q => ?_, fun q => ?_, low b3 (free b3 (fun _ _ z => by rw [b6] at z; cases z) fun z => by rw [b6] at z; cases z), b4, b5, b6⟩
      · obtain ⟨o, es, ep, e, d, _⟩ := T.gns
        rw [q, e] at b3
        cases b3
        rw [d] at b6
        cases b6
      · rw [q, here] at b3
        cases b3
        cases b6
    case g =>
      obtain ⟨o, es, ep, e, d, _⟩ := T.gns
      rw [z, here] at e
      cases e
      cases d
  have env : Env0 P w K mg (hidT st.heap H) callerA [] st H := ⟨rfl, modL, fun b o e => of_hidT e, Nat.le_of_eq (hidT_size _ _), trivial, fun b hb => absurd (show b ∈ ([] : List Addr) from hb) (by simp), R.ok, .of_eq T.gen⟩
  have run := (G _ kinL (nsL T.gns) tabL).run callerA [] st H ⟨[.ref a], []⟩ [.ref a] [.ref a] _ _ hr rfl env (hbind st (.ref a)) (.cons rfl .nil) (hsp H R.tb R.sq)
  refine codeAny_mono run fun ans s2 got => ?_
  match ans, got with
  | .error e, got => exact (hCX H e s2 got).elim
  | .ok .next, got => exact got.elim
  | .ok .brk, got => exact got.elim
  | .ok .cont, got => exact got.elim
  | .ok (.ret u), ⟨v, H2, os, bare, un, ok2, rv, q⟩ =>
    have q : v = .bl true := q
    subst q
    have eu : u = Value.bool true := rv
    subst eu
    have same : ∀ b o, b ∉ cs.map (·.2) → st.heap.get? b = some o → s2.heap.get? b = some o := fun b o nb e => by
      cases z : H b with
      | none => exact un.keep b o e z (fun y => absurd (show b ∈ ([] : List Addr) from y) (by simp)) (by simp)
      | some u =>
        rcases R.frz b with y | y | ⟨ob, xs, y⟩
        · rw [z] at y; cases y
        · exact absurd y nb
        · obtain ⟨e1, _⟩ := R.ok b _ y
          obtain ⟨e2, _⟩ := ok2 b _ (un.frzs b ob _ y)
          rw [e] at e1
          cases e1
          exact e2
    have more : ∀ b, b ∈ cs.map (·.2) → ∃ p ∈ cs, p.2 = b ∧ ∃ ms : Array Value, s2.heap.get? b = some { cls := .none, data := .fields ms } := fun b hb => by
      obtain ⟨p, hp, rfl⟩ := List.mem_map.mp hb
      obtain ⟨ms, z⟩ := un.tbls p.2 #[] (R.tb p hp)
      exact ⟨p, hp, rfl, _, ok2 p.2 _ z⟩
    refine ⟨rfl, ⟨fun b o e => ?_, fun b o e => ?_⟩, os, bare⟩
    · by_cases hb : b ∈ cs.map (·.2)
      · obtain ⟨p, hp, rfl, ms, hm⟩ := more b hb
        rw [T.tab p hp] at e
        cases e
        exact .inr (.inl ⟨((T.code p hp).tab (T.tab p hp)).isCodeTable, rfl, #[], ms, rfl, by rw [Array.empty_append]; exact hm⟩)
      · exact .inl (same b o hb e)
    · by_cases hb : b ∈ cs.map (·.2)
      · obtain ⟨p, hp, rfl, ms, hm⟩ := more b hb
        exact ⟨_, hm⟩
      · exact ⟨o, same b o hb e⟩
end
/-- what is asked of the law's def -/
def LawQ (l : PySem.W.OpenLaw) (w : World) (K : PySem.W.Frag) (CX : CXT) (k n : Nat) (x : Str) (mg : Str → Option Value) (fa : Addr) (h : Heap) : Prop :=
  ∃ (fd : FuncData) (cs : List (Addr × Addr)) (sp : Sp), ((∀ p ∈ cs, h.get? p.2 = some { cls := .none, data := .fields #[] }) ∧ (∀ p ∈ cs, K.lookup p.2 = none) ∧ ∀ p ∈ cs, PySem.W.CodeHd h p.1 p.2) ∧ (∀ (s : Shared) (u : Value), BindsTo s fd ⟨[u], []⟩ [(x, u)]) ∧
    (∀ (H : Hp) (a : Addr) (ns : List Int), ns.length ≤ n → (∀ z ∈ ns, Builtin.Int.intBits z ≤ 1048576) → (∀ p ∈ cs, H p.2 = some (.tbl #[])) → SqL K H a (ns.map V.int) → sp [.ref a] H (fun v _ => v = .bl true) fun _ _ _ => False) ∧
    ∀ base : Heap, K.In base → base.Ns mainGlobals mg → (∀ p ∈ cs, TabB base mg p.1 p.2) → FnQ l.prog w K mg base CX k fa fd [x] sp
theorem walk_q {l : PySem.W.OpenLaw} {n k : Nat} {q : Program} {loose : List Str} {XP : (Str → Option Value) → Heap → Prop} {YP : World → Heap → Prop} {d : DefRec} {CX : World → CXT} {x : Str} (hn : l.most = some n) (hn2 : n ≤ sizeLine) (hdf : d.params.defaults = []) (hr : Room k callerA)
    (G : ∀ (w : World) (mg : Str → Option Value) (fa : Addr) (h : Heap), YP w h → h.Ns mainGlobals mg → mg d.name = some (.ref fa) → ∃ K : PySem.W.Frag, K.In h ∧ LawQ l w K (CX w) k n x mg fa h) (hCX : ∀ (w : World) (H : Hp) (s : Shared) (e : Value) (s' : Shared), CX w [] H s (fun _ _ _ => False) e s' → False) :
    PySem.W.WalkO q loose XP YP l.row.toRowW d [] (fun f vs => PySem.call f vs) := by
  refine Att.attach_callB hn hdf fun w s0 s1 mg mb fa o pm cd doc a vs ns E Y ho hd hcd hmg hl hi hlen hbits hg => ?_
  obtain ⟨K, kin, fd, cs, sp, ⟨hT, nT, C⟩, hb, hsp, hF⟩ := G w mg fa _ Y E.T.g hmg
  exact law_q ⟨kin, E.T.g, E.T.b, E.T.builtins, E.T.nolimit, hg, hT, nT, C, E.T.bmain, hl, hi, Nat.le_trans hlen hn2⟩ hr hF hb (fun H h1 h2 => hsp H a ns hlen hbits h1 h2) fun H e s' => hCX w H s1 e s'
end F
end

section
set_option Elab.async false
set_option linter.all false
set_option autoImplicit false
set_option maxRecDepth 100000
set_option maxHeartbeats 2000000
/-! F layer: repr of data. -/
namespace F
open PySem PySem.Spec PyProof.Rows L2
mutual
def D.py : D → Option PyData
  | .non => some .none
  | .bl b => some (.bool b)
  | .int i => some (.int i)
  | .str x => some (.str (sS x))
  | .tup l => (pys l).map .tuple
  | .lst l => (pys l).map .list
  | _ => none
def pys : List D → Option (List PyData)
  | [] => some []
  | d :: ds => match d.py, pys ds with
    | some p, some ps => some (p :: ps)
    | _, _ => none
end
mutual
theorem py_noDict : ∀ (d : D) (p : PyData), d.py = some p → p.hasDict = false
  | .non, _, h => by cases h; simp only [PyData.hasDict]
  | .bl _, _, h => by cases h; simp only [PyData.hasDict]
  | .int _, _, h => by cases h; simp only [PyData.hasDict]
  | .str _, _, h => by cases h; simp only [PyData.hasDict]
  | .tup l, p, h => by
    obtain ⟨ps, h1, rfl⟩ := Option.map_eq_some_iff.mp (show (pys l).map PyData.tuple = some p from h)
    simp only [PyData.hasDict]
    exact pys_noDict l ps h1
  | .lst l, p, h => by
    obtain ⟨ps, h1, rfl⟩ := Option.map_eq_some_iff.mp (show (pys l).map PyData.list = some p from h)
    simp only [PyData.hasDict]
    exact pys_noDict l ps h1
  | .dct _, _, h => by cases h
  | .obj _ _, _, h => by cases h
  | .ex _ _, _, h => by cases h
theorem pys_noDict : ∀ (l : List D) (ps : List PyData), pys l = some ps → PyData.hasDictAll ps = false
  | [], ps, h => by cases h; simp only [PyData.hasDictAll]
  | d :: ds, ps, h => by
    have h : (match d.py, pys ds with
      | some p, some ps => some (p :: ps)
      | _, _ => none) = some ps := h
    cases q1 : d.py with
    | none => rw [q1] at h; cases h
    | some p =>
      cases q2 : pys ds with
      | none => rw [q1, q2] at h; cases h
      | some qs =>
        rw [q1, q2] at h
        cases h
        simp only [PyData.hasDictAll, py_noDict d p q1, pys_noDict ds qs q2, Bool.or_false]
end
section
variable {X : Cx} {t : Tb} {pins : List (Addr × Obj)} {σ : L2.St} {H : Hp} {s : Shared}
mutual
theorem reads_dat (I : Inv X pins σ H s) : ∀ (d : D) (p : PyData) (v : V) (u : Value), d.py = some p → Dat (cn X t) H d v → RelV v u → ∃ as, Reads s.heap u p as
  | .non, _, _, _, h, e, r => by
    cases h
    cases e
    cases r
    exact ⟨_, .none⟩
  | .bl b, _, _, _, h, e, r => by
    cases h
    cases e
    cases r
    exact ⟨_, .bool b⟩
  | .int i, _, _, _, h, e, r => by
    cases h
    cases e
    obtain ⟨tk, rfl⟩ := r
    exact ⟨_, .int i tk⟩
  | .str x, _, _, _, h, ⟨e, _⟩, r => by
    cases h
    cases e
    obtain ⟨tk, rfl⟩ := r
    exact ⟨_, .str _ tk⟩
  | .tup l, p, _, _, h, ⟨_, a, vs, e, h2, h3⟩, r => by
    obtain ⟨ps, h1, rfl⟩ := Option.map_eq_some_iff.mp (show (pys l).map PyData.tuple = some p from h)
    subst e
    cases r
    obtain ⟨its, rv, ⟨o, ho, hc, n, hd⟩, _⟩ := I.tuple h2
    obtain ⟨as, ra⟩ := reads_dats I l ps vs its h1 h3 rv
    exact ⟨_, .tuple ho hc hd (by simpa using ra)⟩
  | .lst l, p, _, _, h, ⟨_, a, vs, e, h2, h3⟩, r => by
    obtain ⟨ps, h1, rfl⟩ := Option.map_eq_some_iff.mp (show (pys l).map PyData.list = some p from h)
    subst e
    cases r
    obtain ⟨its, rv, ⟨o, n, ho, hc, _, hd⟩, _⟩ := I.list h2
    obtain ⟨as, ra⟩ := reads_dats I l ps vs its h1 h3 rv
    exact ⟨_, .list ho hc hd (by simpa using ra)⟩
  | .dct _, _, _, _, h, _, _ => by cases h
  | .obj _ _, _, _, _, h, _, _ => by cases h
  | .ex _ _, _, _, _, h, _, _ => by cases h
theorem reads_dats (I : Inv X pins σ H s) : ∀ (l : List D) (ps : List PyData) (vs : List V) (us : List Value), pys l = some ps → Dats (cn X t) H l vs → Vals vs us → ∃ as, ReadsAll s.heap us ps as
  | [], ps, vs, us, h, e, r => by
    cases h
    have e : vs = [] := e
    subst e
    cases r
    exact ⟨_, .nil⟩
  | d :: ds, ps, vs, us, h, ⟨v, q, e, h2, h3⟩, r => by
    have h : (match d.py, pys ds with
      | some p, some ps => some (p :: ps)
      | _, _ => none) = some ps := h
    subst e
    cases q1 : d.py with
    | none => rw [q1] at h; cases h
    | some p =>
      cases q2 : pys ds with
      | none => rw [q1, q2] at h; cases h
      | some qs =>
        rw [q1, q2] at h
        cases h
        cases r with
        | cons r1 r2 =>
          obtain ⟨as, ra⟩ := reads_dat I d p v _ q1 h2 r1
          obtain ⟨bs, rb⟩ := reads_dats I ds qs q _ q2 h3 r2
          exact ⟨_, .cons ra rb⟩
end
end
end F
end

section
set_option Elab.async false
set_option linter.all false
set_option autoImplicit false
set_option maxRecDepth 100000
set_option maxHeartbeats 2000000
/-! F layer: what the written part must say of a class of errors, as tests. -/
namespace F
open PySem PySem.Spec PyProof.Rows L2
section
variable {P : Program} {w : World} {K : PySem.W.Frag} {mg : Str → Option Value} {base : Heap} {t : Tb}
end
end F
end

section
set_option Elab.async false
set_option linter.all false
set_option autoImplicit false
set_option maxRecDepth 100000
set_option maxHeartbeats 2000000
/-! F layer: a lambda that captures names, handed to a def at once. -/
namespace F
open PySem PySem.Spec PyProof.Rows L2
section
variable {X : Cx} {pins : List (Addr × Obj)} {σ : L2.St} {H : Hp} {s : Shared}
end
end F
end

section
set_option Elab.async false
set_option linter.all false
set_option autoImplicit false
set_option maxRecDepth 100000
set_option maxHeartbeats 2000000
/-! F layer: g(lambda: e), the names of e captured: e as a thunk. -/
namespace F
open PySem PySem.Spec PyProof.Rows L2
abbrev cnK (K : PySem.W.Frag) (t : Tb) : Cn := ⟨K, t.cls, t.fld, t.tabs, t.ex, t.exM, t.exR⟩
def g2 (k : Nat) : Bool := k != 2
section
variable {K : PySem.W.Frag} {t : Tb} {f c' : Addr} {Lf : LF} {cl : List (Str × Addr)} {Hc : Hp}
/-- the same heaps, other names that hold shared data alone -/
theorem Rp.swap {t t' : Tb} (ht : t'.tabs = t.tabs) {H0 Fr H : Hp} {σ σ' : St} {e e' : Env} {as : Nat → List Addr} (rp : Rp (cnK K t) H0 Fr H σ e as) (hl : e'.length = σ'.length)
    (h : ∀ i o, slot e' i = some o → ∃ v d, o = .sh d ∧ σ'[i]? = some (some v) ∧ Dat (cnK K t') H0 d v) : Rp (cnK K t') H0 Fr H σ' e' (fun _ => []) := by
  refine ⟨hl, rp.sub, rp.fr, fun i o q => ?_, fun i a ha => (by simp at ha), fun i j a ha => (by simp at ha), fun i => List.nodup_nil, fun i q => rfl, ⟨?_, ?_, ?_, fun p hp i => (by simp)⟩⟩
  · obtain ⟨v, d, e1, h1, h2⟩ := h i o q
    subst e1
    exact ⟨v, h1, rfl, h2⟩
  · intro p hp
    exact rp.tab.at_ p (show p ∈ t.tabs from ht ▸ hp)
  · intro p hp
    exact rp.tab.n0 p (show p ∈ t.tabs from ht ▸ hp)
  · intro p hp
    exact rp.tab.nF p (show p ∈ t.tabs from ht ▸ hp)
/-! ### the thunk -/
/-! ### the def that gets it -/
/-! ### the call -/
end
end F
end

section
set_option Elab.async false
set_option linter.all false
set_option autoImplicit false
set_option maxRecDepth 100000
set_option maxHeartbeats 2000000
/-! F layer: products of lists and texts, list(text), tuple(list), min of a list, gets. -/
namespace F
open PySem PySem.Spec PyProof.Rows L2
/-! ### list * int -/
/-! ### text * int -/
/-! ### list(text), tuple(list) -/
/-! ### min -/
theorem strs_ints : ∀ {ns : List Int} {c : Cn} {H : Hp} {vs : List V}, Dats c H (ns.map D.int) vs → vs = ns.map V.int
  | [], _, _, _, h => h
  | n :: ns, _, _, _, ⟨v, r, h1, h2, h3⟩ => by
    have h2 : v = .int n := h2
    rw [h1, h2, strs_ints h3]
    rfl
def intsOf : List D → Option (List Int)
  | [] => some []
  | .int i :: r => (intsOf r).map (i :: ·)
  | _ :: _ => none
theorem intsOf_map : ∀ {l : List D} {ns : List Int}, intsOf l = some ns → l = ns.map D.int
  | [], _, h => by cases h; rfl
  | d :: r, ns, h => by
    cases d with
    | int i =>
      obtain ⟨m, h1, h2⟩ := Option.map_eq_some_iff.mp (show (intsOf r).map (i :: ·) = some ns from h)
      subst h2
      rw [intsOf_map h1]
      rfl
    | _ => cases h
/-! ### d.get(k, x), d.get(k) -/
def smpD : D → Bool
  | .non | .bl _ | .int _ | .str _ => true
  | _ => false
def getD (l : List (Ky × D)) (k z : D) : Option D := match keyD k with
  | some q => (match lookK l q with
    | some d => some d
    | none => if smpD z = true then some z else none)
  | none => none
/-- the object must be a dict when it is reached -/
def mGet2 (a b f : M R) : M R := fun e => andThen (a e) fun r e1 => match peek r e1 with
  | some (.dct _) => andThen (b e1) fun q e2 => andThen (f e2) fun p e3 => ofO (peek (nrm r) e3) fun x => ofO (peek (nrm q) e3) fun y => ofO (peek p e3) fun z => (match x with
    | .dct l => ofO (getD l y z) fun w => .ok (.d w) e3
    | _ => .bad)
  | _ => .bad
section
variable {X : Cx} {t : Tb} {W : WX} {a b f : Expr} {ma mb mf : M R} {apos cpos : Pos}
/-! ### a written table's get -/
/-- the table with keys that it has not -/
structure KTabM (X : Cx) (t : Tb) (a : Addr) (l : List (List Nat × D)) (ms : List (List Nat)) : Prop where
  kd : ∃ es n, KDict X.K X.w a es n
  has : ∀ (x : List Nat) (d : D), l.lookup x = some d → ∃ u0 v0, PySem.W.nsIn X.K a (sS x) = some (some u0) ∧ RelV v0 u0 ∧ ∀ H, Dat (cn X t) H d v0
  mis : ∀ x, ms.contains x = true → PySem.W.nsIn X.K a (sS x) = some none
end
end F
end

section
set_option Elab.async false
set_option linter.all false
set_option autoImplicit false
set_option maxRecDepth 100000
set_option maxHeartbeats 2000000
/-! F layer: list(text), tuple(list), repr of data with dicts. -/
namespace F
open PySem PySem.Spec PyProof.Rows L2
/-! ### repr -/
def kyP : Ky → PyData
  | .i n => .int n
  | .s x => .str (sS x)
mutual
def D.pz : D → Option PyData
  | .non => some .none
  | .bl b => some (.bool b)
  | .int i => some (.int i)
  | .str x => some (.str (sS x))
  | .tup l => (pzs l).map .tuple
  | .lst l => (pzs l).map .list
  | .dct l => (pzk l).map .dict
  | _ => none
def pzs : List D → Option (List PyData)
  | [] => some []
  | d :: ds => match d.pz, pzs ds with
    | some p, some ps => some (p :: ps)
    | _, _ => none
def pzk : List (Ky × D) → Option (List (PyData × PyData))
  | [] => some []
  | (k, d) :: ds => match d.pz, pzk ds with
    | some p, some ps => some ((kyP k, p) :: ps)
    | _, _ => none
end
mutual
/-- no list in it -/
def D.nol : D → Bool
  | .lst _ => false
  | .tup l => nols l
  | .dct l => nolk l
  | _ => true
def nols : List D → Bool
  | [] => true
  | d :: ds => d.nol && nols ds
def nolk : List (Ky × D) → Bool
  | [] => true
  | (_, d) :: ds => d.nol && nolk ds
end
mutual
/-- no dict in it -/
def D.nod : D → Bool
  | .dct _ => false
  | .tup l => nods l
  | .lst l => nods l
  | _ => true
def nods : List D → Bool
  | [] => true
  | d :: ds => d.nod && nods ds
end
mutual
theorem pz_noDict : ∀ (d : D) (p : PyData), d.pz = some p → d.nod = true → p.hasDict = false
  | .non, _, h, _ => by cases h; simp only [PyData.hasDict]
  | .bl _, _, h, _ => by cases h; simp only [PyData.hasDict]
  | .int _, _, h, _ => by cases h; simp only [PyData.hasDict]
  | .str _, _, h, _ => by cases h; simp only [PyData.hasDict]
  | .tup l, p, h, n => by
    obtain ⟨ps, h1, rfl⟩ := Option.map_eq_some_iff.mp (show (pzs l).map PyData.tuple = some p from h)
    simp only [PyData.hasDict]
    exact pzs_noDict l ps h1 n
  | .lst l, p, h, n => by
    obtain ⟨ps, h1, rfl⟩ := Option.map_eq_some_iff.mp (show (pzs l).map PyData.list = some p from h)
    simp only [PyData.hasDict]
    exact pzs_noDict l ps h1 n
  | .dct _, _, _, n => by cases n
  | .obj _ _, _, h, _ => by cases h
  | .ex _ _, _, h, _ => by cases h
theorem pzs_noDict : ∀ (l : List D) (ps : List PyData), pzs l = some ps → nods l = true → PyData.hasDictAll ps = false
  | [], ps, h, _ => by cases h; simp only [PyData.hasDictAll]
  | d :: ds, ps, h, n => by
    have h : (match d.pz, pzs ds with
      | some p, some ps => some (p :: ps)
      | _, _ => none) = some ps := h
    obtain ⟨n1, n2⟩ := bAnd (show (d.nod && nods ds) = true from n)
    cases q1 : d.pz with
    | none => rw [q1] at h; cases h
    | some p =>
      cases q2 : pzs ds with
      | none => rw [q1, q2] at h; cases h
      | some qs =>
        rw [q1, q2] at h
        cases h
        simp only [PyData.hasDictAll, pz_noDict d p q1 n1, pzs_noDict ds qs q2 n2, Bool.or_false]
end
section
variable {X : Cx} {t : Tb} {pins : List (Addr × Obj)} {σ : L2.St} {H : Hp} {s : Shared}
theorem keyIs_reads {h : Heap} {k : Ky} {v : Value} (e : keyIs (kyK k) v = true) : Reads h v (kyP k) [] := by
  rcases keyIs_shape e with ⟨i, t, h1, rfl⟩ | ⟨x, t, h1, rfl⟩
  · cases k with
    | i n => cases h1; exact .int _ t
    | s y => cases h1
  · cases k with
    | i n => cases h1
    | s y => cases h1; exact .str _ t
mutual
theorem readz (I : Inv X pins σ H s) : ∀ (d : D) (p : PyData) (v : V) (u : Value), d.pz = some p → Dat (cn X t) H d v → RelV v u → ∃ as, Reads s.heap u p as ∧ (d.nol = true → sysModules ∉ as)
  | .non, _, _, _, h, e, r => by
    cases h
    cases e
    cases r
    exact ⟨_, .none, fun _ => by simp⟩
  | .bl b, _, _, _, h, e, r => by
    cases h
    cases e
    cases r
    exact ⟨_, .bool b, fun _ => by simp⟩
  | .int i, _, _, _, h, e, r => by
    cases h
    cases e
    obtain ⟨tk, rfl⟩ := r
    exact ⟨_, .int i tk, fun _ => by simp⟩
  | .str x, _, _, _, h, ⟨e, _⟩, r => by
    cases h
    cases e
    obtain ⟨tk, rfl⟩ := r
    exact ⟨_, .str _ tk, fun _ => by simp⟩
  | .tup l, p, _, _, h, ⟨_, a, vs, e, h2, h3⟩, r => by
    obtain ⟨ps, h1, rfl⟩ := Option.map_eq_some_iff.mp (show (pzs l).map PyData.tuple = some p from h)
    subst e
    cases r
    obtain ⟨its, rv, ⟨o, ho, hc, n, hd⟩, _⟩ := I.tuple h2
    obtain ⟨as, ra, na⟩ := readzs I l ps vs its h1 h3 rv
    exact ⟨_, .tuple ho hc hd (by simpa using ra), na⟩
  | .lst l, p, _, _, h, ⟨_, a, vs, e, h2, h3⟩, r => by
    obtain ⟨ps, h1, rfl⟩ := Option.map_eq_some_iff.mp (show (pzs l).map PyData.list = some p from h)
    subst e
    cases r
    obtain ⟨its, rv, ⟨o, n, ho, hc, _, hd⟩, _⟩ := I.list h2
    obtain ⟨as, ra, _⟩ := readzs I l ps vs its h1 h3 rv
    exact ⟨_, .list ho hc hd (by simpa using ra), fun z => by cases z⟩
  | .dct l, p, _, _, h, ⟨_, a, kvs, e, h2, h3⟩, r => by
    obtain ⟨ps, h1, rfl⟩ := Option.map_eq_some_iff.mp (show (pzk l).map PyData.dict = some p from h)
    subst e
    cases r
    obtain ⟨z, lo, vs, rk, o, es, ep, ho, hx, hd, hk, hp, _⟩ := dk_rd I.hok h2
    obtain ⟨bs, r1, r2, nb⟩ := readzk I l ps kvs vs es.toList h1 h3 rk hp
    refine ⟨_, .dict ho hx.1 hd (as := []) r1 r2, fun z => ?_⟩
    simp only [List.cons_append, List.nil_append, List.mem_cons, not_or]
    exact ⟨fun e => by rw [← e] at lo; simp at lo, nb z⟩
  | .obj _ _, _, _, _, h, _, _ => by cases h
  | .ex _ _, _, _, _, h, _, _ => by cases h
theorem readzs (I : Inv X pins σ H s) : ∀ (l : List D) (ps : List PyData) (vs : List V) (us : List Value), pzs l = some ps → Dats (cn X t) H l vs → Vals vs us → ∃ as, ReadsAll s.heap us ps as ∧ (nols l = true → sysModules ∉ as)
  | [], ps, vs, us, h, e, r => by
    cases h
    have e : vs = [] := e
    subst e
    cases r
    exact ⟨_, .nil, fun _ => by simp⟩
  | d :: ds, ps, vs, us, h, ⟨v, q, e, h2, h3⟩, r => by
    have h : (match d.pz, pzs ds with
      | some p, some ps => some (p :: ps)
      | _, _ => none) = some ps := h
    subst e
    cases q1 : d.pz with
    | none => rw [q1] at h; cases h
    | some p =>
      cases q2 : pzs ds with
      | none => rw [q1, q2] at h; cases h
      | some qs =>
        rw [q1, q2] at h
        cases h
        cases r with
        | cons r1 r2 =>
          obtain ⟨as, ra, na⟩ := readz I d p v _ q1 h2 r1
          obtain ⟨bs, rb, nb⟩ := readzs I ds qs q _ q2 h3 r2
          refine ⟨_, .cons ra rb, fun z => ?_⟩
          obtain ⟨z1, z2⟩ := bAnd (show (d.nol && nols ds) = true from z)
          simp only [List.mem_append, not_or]
          exact ⟨na z1, nb z2⟩
theorem readzk (I : Inv X pins σ H s) : ∀ (l : List (Ky × D)) (ps : List (PyData × PyData)) (kvs : List (Key × V)) (vs : List (Key × Value)) (es : List DictEntry), pzk l = some ps → DatK (cn X t) H l kvs → KV kvs vs → Pairs (mixKind X.prog X.w) es vs →
    ∃ bs, ReadsAll s.heap (es.map (·.key)) (ps.map (·.1)) [] ∧ ReadsAll s.heap (es.map (·.val)) (ps.map (·.2)) bs ∧ (nolk l = true → sysModules ∉ bs)
  | [], ps, kvs, vs, es, h, e, r, pr => by
    cases h
    have e : kvs = [] := e
    subst e
    cases r
    cases pr
    exact ⟨[], .nil, .nil, fun _ => by simp⟩
  | (k, d) :: ds, ps, kvs, vs, es, h, ⟨v, q, e, h2, h3⟩, r, pr => by
    have h : (match d.pz, pzk ds with
      | some p, some ps => some ((kyP k, p) :: ps)
      | _, _ => none) = some ps := h
    subst e
    cases q1 : d.pz with
    | none => rw [q1] at h; cases h
    | some p =>
      cases q2 : pzk ds with
      | none => rw [q1, q2] at h; cases h
      | some qs =>
        rw [q1, q2] at h
        cases h
        cases r with
        | cons r1 r2 =>
          cases pr with
          | cons p1 p2 p3 =>
            obtain ⟨ek, rv⟩ := r1
            obtain ⟨as, ra, na⟩ := readz I d p v _ q1 h2 rv
            obtain ⟨bs, rb1, rb2, nb⟩ := readzk I ds qs q _ _ q2 h3 r2 p3
            refine ⟨as ++ bs, ?_, ?_, fun z => ?_⟩
            · exact ReadsAll.cons (as := []) (bs := []) (keyIs_reads (by have ek : kyK k = _ := ek; rw [ek]; exact p1)) rb1
            · rw [← p2] at ra
              exact .cons ra rb2
            · obtain ⟨z1, z2⟩ := bAnd (show (d.nol && nolk ds) = true from z)
              simp only [List.mem_append, not_or]
              exact ⟨na z1, nb z2⟩
end
/-- repr(x), x data -/
def rReprZ (c : Cn) : List V → Hp → VK → Prop := fun xs H Q => ∃ (v : V) (d : D) (p : PyData), xs = [v] ∧ Dat c H d v ∧ d.pz = some p ∧ (d.nod = true ∨ d.nol = true) ∧ p.showable = true ∧ p.depth ≤ 50 ∧ p.shown.length ≤ lim ∧ Q (.str p.shown) H
theorem call_reprZ (hu : X.A.guards = some []) (hun : X.A.units + 52 < cLine) : CallR X (.builtin "repr") (rReprZ (cn X t)) := by
  intro pins s σ H xs us Q I r h
  obtain ⟨v, d, p, rfl, hd, hp, hno, hs, hdp, hl, q⟩ := h
  obtain ⟨u, rfl, rv⟩ := r.one
  have hz : p.shown.length ≤ sizeLine := by rw [sizeLine_lim]; exact hl
  obtain ⟨as, rd, nol⟩ := readz I d p v u hp hd rv
  have hsm : p.hasDict = true → sysModules ∉ as := fun z => by
    rcases hno with n | n
    · rw [pz_noDict d p hp n] at z
      cases z
    · exact nol n
  have big : ∀ a : Addr, u = .ref a → wpAny (model X.prog X.w) X.A (call (.builtin "repr") [u]) (EP X pins σ Q) X.xe s := fun a e => by
    subst e
    exact repr_of_reads' rd hs hsm hu (by omega) (fun _ _ e => e) (fun h' u tk hk => ⟨.str p.shown, H, I.kept (t' := tk) hk, ⟨u, rfl⟩, q⟩) hz
  cases rd with
  | none =>
    simp only [PyData.shown] at q
    exact PySem.P.repr_of_none ⟨.str "None", H, I.tok _, ⟨_, rfl⟩, q⟩
  | bool b =>
    simp only [PyData.shown] at q
    exact PySem.P.repr_of_bool ⟨.str (if b then "True" else "False"), H, I.tok _, ⟨_, rfl⟩, q⟩
  | int i tk =>
    simp only [PyData.shown] at q
    simp only [PyData.showable] at hs
    exact PySem.P.repr_of_int (of_decide_eq_true hs) ⟨.str (toString i), H, I.tok _, ⟨_, rfl⟩, q⟩
  | str x tk =>
    simp only [PyData.shown] at q hz
    exact PySem.P.repr_of_str ⟨.str (reprText x), H, I.tok _, ⟨_, rfl⟩, q⟩ hz
  | list _ _ _ _ => exact big _ rfl
  | tuple _ _ _ _ => exact big _ rfl
  | dict _ _ _ _ _ => exact big _ rfl
def reprZ : List D → Option D
  | [d] => match d.pz with
    | some p => if (d.nod || d.nol) = true ∧ p.showable = true ∧ p.depth ≤ 50 ∧ p.shown.cps.toList.length ≤ lim then some (.str p.shown.cps.toList) else none
    | none => none
  | _ => none
theorem b_reprZ {c : Cn} : CB c (rReprZ c) reprZ := by
  intro H0 H xs ds dz Q s e h o
  match ds, e with
  | [d], e =>
    have e : (match d.pz with
      | some p => if (d.nod || d.nol) = true ∧ p.showable = true ∧ p.depth ≤ 50 ∧ p.shown.cps.toList.length ≤ lim then some (.str p.shown.cps.toList) else none
      | none => none) = some dz := e
    cases q0 : d.pz with
    | none => rw [q0] at e; cases e
    | some p =>
      rw [q0] at e
      have e : (if (d.nod || d.nol) = true ∧ p.showable = true ∧ p.depth ≤ 50 ∧ p.shown.cps.toList.length ≤ lim then some (D.str p.shown.cps.toList) else none) = some dz := e
      by_cases z : (d.nod || d.nol) = true ∧ p.showable = true ∧ p.depth ≤ 50 ∧ p.shown.cps.toList.length ≤ lim
      case neg => rw [if_neg z] at e; cases e
      rw [if_pos z] at e
      cases e
      obtain ⟨v, rfl, h1⟩ := h.one
      have es : sS p.shown.cps.toList = p.shown := by unfold sS; rw [Array.toArray_toList]
      refine ⟨v, d, p, rfl, Dat1.dat s h1, q0, Bool.or_eq_true_iff.mp z.1, z.2.1, z.2.2.1, by have := z.2.2.2; simpa [Str.length] using this, ?_⟩
      rw [← es]
      exact o.str z.2.2.2
end
end F
end

section
set_option Elab.async false
set_option linter.all false
set_option autoImplicit false
set_option maxRecDepth 100000
set_option maxHeartbeats 2000000
/-! F layer: several except clauses, each with or without a name. -/
namespace F
open PySem PySem.Spec PyProof.Rows L2
/-- what the clauses wish of an exception of the body, one after the other; some i: the slot of the clause's name -/
def wClauses (K : PySem.W.Frag) (Wout : WX) (D : Ends) : List (Value × Option Nat × (Addr → Value → Option Addr → TS)) → WX
  | [] => Wout
  | (c, none, ts) :: r => fun cls d σ H => ∃ b, PySem.W.exmOne K cls c = some b ∧ (b = true → ∀ a, H a = none → ts a cls d D σ H) ∧ (b = false → wClauses K Wout D r cls d σ H)
  | (c, some i, ts) :: r => fun cls d σ H => ∃ b, PySem.W.exmOne K cls c = some b ∧ (b = true → ∀ a, H a = none → ts a cls d { nx := fun σ' H' => D.nx (σ'.set i none) H', rt := D.rt, bk := fun σ' H' => D.bk (σ'.set i none) H', ct := fun σ' H' => D.ct (σ'.set i none) H' } (σ.set i (some (.ref a))) H) ∧
    (b = false → wClauses K Wout D r cls d σ H)
inductive ClausesOk (X : Cx) : List ExceptHandler → List (Value × Option Nat × (Addr → Value → Option Addr → TS)) → Prop
  | nil : ClausesOk X [] []
  | bare {x : Str} {c : Value} {ts : Addr → Value → Option Addr → TS} {b₀ : Stmt} {suite : List Stmt} {np pos' : Pos} {hds : List ExceptHandler} {l : List (Value × Option Nat × (Addr → Value → Option Addr → TS))} (hc : Names X x c)
      (hsu : ∀ (a : Addr) (oe : Obj) (cls : Value) (d : Option Addr) (pn : List (Addr × Obj)), Zc cls d oe → (∃ vs, oe.data = .fields vs) → PSs (X.suite a ((a, oe) :: pn)) (b₀ :: suite) (ts a cls d)) (r : ClausesOk X hds l) :
      ClausesOk X (.ExceptHandler (some (.Name x np)) none (b₀ :: suite) pos' :: hds) ((c, none, ts) :: l)
  | named {x n : Str} {i : Nat} {c : Value} {ts : Addr → Value → Option Addr → TS} {b₀ : Stmt} {suite : List Stmt} {np pos' : Pos} {hds : List ExceptHandler} {l : List (Value × Option Nat × (Addr → Value → Option Addr → TS))} (hc : Names X x c) (hi : X.N[i]? = some n) (hln : X.env.kindOf n = some .local)
      (hsu : ∀ (a : Addr) (oe : Obj) (cls : Value) (d : Option Addr) (pn : List (Addr × Obj)), Zc cls d oe → (∃ vs, oe.data = .fields vs) → PSs (X.suite a ((a, oe) :: pn)) (b₀ :: suite) (ts a cls d)) (r : ClausesOk X hds l) :
      ClausesOk X (.ExceptHandler (some (.Name x np)) (some n) (b₀ :: suite) pos' :: hds) ((c, some i, ts) :: l)
section
variable {X : Cx} {body : List Stmt} {h₀ : ExceptHandler} {hds : List ExceptHandler} {l : List (Value × Option Nat × (Addr → Value → Option Addr → TS))} {pos : Pos} {tb : WX → TS} {Wout : WX}
end
end F
end

section
set_option Elab.async false
set_option linter.all false
set_option autoImplicit false
set_option maxRecDepth 100000
set_option maxHeartbeats 2000000
/-! F layer: try with several clauses, as plain functions; what a def that gets a thunk promises. -/
namespace F
open PySem PySem.Spec PyProof.Rows L2
abbrev Cl := (Nat → Option Bool) × Option Nat × MS
def setO (i : Option Nat) (x : Option O) (e : Env) : Env := match i with
  | some i => e.set i x
  | none => e
def sufEndO (i : Option Nat) : SR → SR
  | .nx e => .nx (cleanE (setO i none e))
  | .bk e => .bk (cleanE (setO i none e))
  | .ct e => .ct (cleanE (setO i none e))
  | .rt o e => if o.exs g9 = true then .rt o (cleanE (setO i none e)) else .bad
  | .ex _ _ _ => .bad
  | .bad => .bad
def tryL : List Cl → Nat → D → Env → SR
  | [], k, p, e => .ex k p e
  | (cat, i, ms) :: r, k, p, e => match cat k with
    | some true => sufEndO i (ms (setO i (some (.sh (.ex 9 (.tup [.int (k : Nat), p])))) e))
    | some false => tryL r k p e
    | none => .bad
section
variable {X : Cx} {t : Tb} {W : WX} {P : Nat → Bool} {pos pos' np : Pos}
theorem Rp.cleanO {t : Tb} {K : PySem.W.Frag} {a : Addr} {cls : Value} {dx : Option Addr} {H0 Fr H : Hp} {σ : St} {e : Env} {as : Nat → List Addr}
    (rp : Rp ⟨K, (sufT t K a cls dx).cls, (sufT t K a cls dx).fld, (sufT t K a cls dx).tabs, (sufT t K a cls dx).ex, (sufT t K a cls dx).exM, (sufT t K a cls dx).exR⟩ H0 Fr H σ e as) :
    ∃ as', Rp ⟨K, t.cls, t.fld, t.tabs, t.ex, t.exM, t.exR⟩ H0 Fr H σ (cleanE e) as' := by
  obtain ⟨as1, r1⟩ := rp.re (σ' := σ) (e' := cleanE e) (by rw [cleanE_len]; exact rp.len) id (fun j o q => ⟨(cleanE_slot q).1, rfl⟩) (fun i j _ _ _ _ h => h)
  exact ⟨as1, Rp.cv sufDown r1 fun j o q => (cleanE_slot q).2⟩
inductive HdF (X : Cx) (t : Tb) (P : Nat → Bool) : List ExceptHandler → List Cl → Prop
  | nil : HdF X t P [] []
  | bare {x : Str} {c : Value} {cat : Nat → Option Bool} {ms : MS} {b₀ : Stmt} {suite : List Stmt} {np pos' : Pos} {hds : List ExceptHandler} {l : List Cl} (hc : Names X x c) (hcat : ∀ k b, cat k = some b → PySem.W.exmOne X.K (.ref (t.cls k)) c = some b)
      (hsu : ∀ (a : Addr) (oe : Obj) (cls : Value) (d : Option Addr) (pn : List (Addr × Obj)), Zc cls d oe → (∃ vs, oe.data = .fields vs) → SSs (X.suite a ((a, oe) :: pn)) (sufT t X.K a cls d) W0 P (b₀ :: suite) ms) (r : HdF X t P hds l) :
      HdF X t P (.ExceptHandler (some (.Name x np)) none (b₀ :: suite) pos' :: hds) ((cat, none, ms) :: l)
  | named {x n : Str} {i : Nat} {c : Value} {cat : Nat → Option Bool} {ms : MS} {b₀ : Stmt} {suite : List Stmt} {np pos' : Pos} {hds : List ExceptHandler} {l : List Cl} (hP : P i = false) (hi : X.N[i]? = some n) (hln : X.env.kindOf n = some .local) (hc : Names X x c)
      (hcat : ∀ k b, cat k = some b → PySem.W.exmOne X.K (.ref (t.cls k)) c = some b)
      (hsu : ∀ (a : Addr) (oe : Obj) (cls : Value) (d : Option Addr) (pn : List (Addr × Obj)), Zc cls d oe → (∃ vs, oe.data = .fields vs) → SSs (X.suite a ((a, oe) :: pn)) (sufT t X.K a cls d) W0 P (b₀ :: suite) ms) (r : HdF X t P hds l) :
      HdF X t P (.ExceptHandler (some (.Name x np)) (some n) (b₀ :: suite) pos' :: hds) ((cat, some i, ms) :: l)
/-- the clauses, read -/
theorem HdF.read {hds : List ExceptHandler} {cs : List Cl} (h : HdF X t P hds cs) : ∃ l, ClausesOk X hds l ∧
    ∀ {σ σ' : St} {Fr H0 H1 H' : Hp} {En : Ends} {e1 : Env} {as1 : Nat → List Addr} {k : Nat} {p : D} {cls : Value} {dx : Option Addr}, Same H0 H1 → Prot P σ σ' → Rp (cn X t) H1 Fr H' σ' e1 as1 → ExA t (cn X t) H1 H' k p cls dx →
      PoS t (cn X t) W P Fr σ H0 En (tryL cs k p e1) → wClauses X.K W En l cls dx σ' H' := by
  induction h with
  | nil => exact ⟨[], .nil, fun {σ σ' Fr H0 H1 H' En e1 as1 k p cls dx} s pr rp1 xa po => po σ' H1 H' as1 cls dx s pr rp1 xa⟩
  | @bare x c cat ms b₀ suite np pos' hds l0 hc hcat hsu r ih =>
    obtain ⟨l, hl, hr⟩ := ih
    refine ⟨_, .bare hc (ts := fun a cls d => tS (sufT t X.K a cls d) (cn X (sufT t X.K a cls d)) W0 P ms) hsu hl, ?_⟩
    intro σ σ' Fr H0 H1 H' En e1 as1 k p cls dx s pr rp1 xa po
    have xa0 := xa
    obtain ⟨ec, xa⟩ := xa
    unfold tryL at po
    cases q2 : cat k with
    | none => rw [q2] at po; exact po.elim
    | some b =>
      rw [q2] at po
      refine ⟨b, by rw [ec]; exact hcat k b q2, fun hb1 a na => ?_, fun hb1 => ?_⟩
      · subst hb1
        have r0 : Rp (cn X (sufT t X.K a cls dx)) H1 Fr H' σ' e1 as1 := rp1.up
        refine ⟨_, H1, Fr, _, r0, ?_⟩
        have po : PoS t (cn X t) W P Fr σ H0 En (sufEndO none (ms e1)) := po
        cases q3 : ms e1 with
        | nx e3 =>
          rw [q3] at po
          intro σ2 H2 H2' as2 s2 p2 rp2
          obtain ⟨as3, rp3⟩ := rp2.cleanO
          exact po _ H2 H2' as3 (s.trans s2) (pr.trans p2) rp3
        | bk e3 =>
          rw [q3] at po
          intro σ2 H2 H2' as2 s2 p2 rp2
          obtain ⟨as3, rp3⟩ := rp2.cleanO
          exact po _ H2 H2' as3 (s.trans s2) (pr.trans p2) rp3
        | ct e3 =>
          rw [q3] at po
          intro σ2 H2 H2' as2 s2 p2 rp2
          obtain ⟨as3, rp3⟩ := rp2.cleanO
          exact po _ H2 H2' as3 (s.trans s2) (pr.trans p2) rp3
        | rt o e3 =>
          rw [q3] at po
          have po : PoS t (cn X t) W P Fr σ H0 En (if o.exs g9 = true then .rt o (cleanE e3) else .bad) := po
          by_cases z : o.exs g9 = true
          case neg =>
            rw [if_neg z] at po
            exact po.elim
          rw [if_pos z] at po
          intro v σ2 H2 H2' s2 p2 ⟨bs, as2, ow, nd, off, rp2⟩
          obtain ⟨as3, rp3⟩ := rp2.cleanO
          exact po v σ2 H2 H2' (s.trans s2) (pr.trans p2) ⟨bs, as3, OwnR.cv sufDown o v bs z ow, nd, off, rp3⟩
        | ex k3 p3 e3 => rw [q3] at po; exact po.elim
        | bad => rw [q3] at po; exact po.elim
      · subst hb1
        exact hr s pr rp1 xa0 po
  | @named x n i c cat ms b₀ suite np pos' hds l0 hP hi hln hc hcat hsu r ih =>
    obtain ⟨l, hl, hr⟩ := ih
    refine ⟨_, .named hc hi hln (ts := fun a cls d => tS (sufT t X.K a cls d) (cn X (sufT t X.K a cls d)) W0 P ms) hsu hl, ?_⟩
    intro σ σ' Fr H0 H1 H' En e1 as1 k p cls dx s pr rp1 xa po
    have xa0 := xa
    obtain ⟨ec, xa⟩ := xa
    unfold tryL at po
    cases q2 : cat k with
    | none => rw [q2] at po; exact po.elim
    | some b =>
      rw [q2] at po
      refine ⟨b, by rw [ec]; exact hcat k b q2, fun hb1 a na => ?_, fun hb1 => ?_⟩
      · subst hb1
        have r0 : Rp (cn X (sufT t X.K a cls dx)) H1 Fr H' σ' e1 as1 := rp1.up
        have hd : Dat (cn X (sufT t X.K a cls dx)) H1 (.ex 9 (.tup [.int (k : Nat), p])) (.ref a) := .inr ⟨rfl, k, p, rfl, rfl, ec, by
          rcases xa with ⟨dd, v, h1, h2, h3⟩ | h1
          · exact .inl ⟨dd, v, h1, h2, h3⟩
          · exact .inr h1⟩
        have r1 := r0.setSh (i := i) hd
        refine ⟨_, H1, Fr, _, r1, ?_⟩
        have pr2 : Prot P σ (σ'.set i (some (.ref a))) := pr.trans (Prot.set hP)
        have po : PoS t (cn X t) W P Fr σ H0 En (sufEnd i (ms (e1.set i (some (.sh (.ex 9 (.tup [.int (k : Nat), p]))))))) := by
          have po : PoS t (cn X t) W P Fr σ H0 En (sufEndO (some i) (ms (e1.set i (some (.sh (.ex 9 (.tup [.int (k : Nat), p]))))))) := po
          cases q3 : ms (e1.set i (some (.sh (.ex 9 (.tup [.int (k : Nat), p]))))) <;> rw [q3] at po <;> exact po
        cases q3 : ms (e1.set i (some (.sh (.ex 9 (.tup [.int (k : Nat), p]))))) with
        | nx e3 =>
          rw [q3] at po
          intro σ2 H2 H2' as2 s2 p2 rp2
          obtain ⟨as3, rp3⟩ := rp2.clean (i := i)
          exact po _ H2 H2' as3 (s.trans s2) ((pr2.trans p2).trans (Prot.set hP)) rp3
        | bk e3 =>
          rw [q3] at po
          intro σ2 H2 H2' as2 s2 p2 rp2
          obtain ⟨as3, rp3⟩ := rp2.clean (i := i)
          exact po _ H2 H2' as3 (s.trans s2) ((pr2.trans p2).trans (Prot.set hP)) rp3
        | ct e3 =>
          rw [q3] at po
          intro σ2 H2 H2' as2 s2 p2 rp2
          obtain ⟨as3, rp3⟩ := rp2.clean (i := i)
          exact po _ H2 H2' as3 (s.trans s2) ((pr2.trans p2).trans (Prot.set hP)) rp3
        | rt o e3 =>
          rw [q3] at po
          have po : PoS t (cn X t) W P Fr σ H0 En (if o.exs g9 = true then .rt o (cleanE (e3.set i none)) else .bad) := po
          by_cases z : o.exs g9 = true
          case neg =>
            rw [if_neg z] at po
            exact po.elim
          rw [if_pos z] at po
          intro v σ2 H2 H2' s2 p2 ⟨bs, as2, ow, nd, off, rp2⟩
          obtain ⟨as3, rp3⟩ := rp2.clean0 (i := i)
          exact po v σ2 H2 H2' (s.trans s2) (pr2.trans p2) ⟨bs, as3, OwnR.cv sufDown o v bs z ow, nd, off, rp3⟩
        | ex k3 p3 e3 => rw [q3] at po; exact po.elim
        | bad => rw [q3] at po; exact po.elim
      · subst hb1
        exact hr s pr rp1 xa0 po
end
/-! ### a def that gets a thunk -/
section
variable {t : Tb}
end
theorem un52 {A : Around} {k : Nat} (hr : Room k A) : A.units + 52 < cLine := by have := hr.units; omega
end F
end

section
set_option Elab.async false
set_option linter.all false
set_option autoImplicit false
set_option maxRecDepth 100000
set_option maxHeartbeats 2000000
/-! F layer: small facts for the printed texts. -/
namespace F
open PySem PySem.Spec PyProof.Rows L2
theorem boot_repr : bootBuiltins "repr" = some (.builtin "repr") := by decide +kernel
end F
end

section
set_option Elab.async false
set_option linter.all false
set_option autoImplicit false
set_option maxRecDepth 100000
set_option maxHeartbeats 2000000
/-! zip(a, b, strict=True) of two lists of one length, walked. -/
namespace F
open PySem PySem.Spec PyProof.Rows L2
section
variable {prog : Program} {w : World} {A : Around} {E : Value → Shared → Prop} {s : Shared}
variable {z ti to i1 i2 l1 l2 : Addr} {k1 k2 : Nat} {xs ys : Array Value}
end
end F
end

section
set_option Elab.async false
set_option linter.all false
set_option autoImplicit false
set_option maxRecDepth 100000
set_option maxHeartbeats 2000000
namespace F
open PySem PySem.Spec PyProof.Rows L2
section
variable {prog : Program} {w : World} {A : Around} {E : Value → Shared → Prop} {s : Shared}
variable {z ti to i1 i2 l1 l2 : Addr} {k1 k2 : Nat} {xs ys : Array Value}
end
/-! ### the call -/
section
variable {prog : Program} {w : World} {A : Around} {E : Value → Shared → Prop} {s : Shared}
end
/-! ### walked -/
/-- the items of two lists of one length, in new pairs -/
def Its (K : PySem.W.Frag) (a b : Addr) : It := ⟨(Itz K a b).go, (Itz K a b).yld, fun i H => ∃ xs ys : List V, SqL K H a xs ∧ SqL K H b ys ∧ xs.length ≤ i ∧ ys.length ≤ i⟩
/-! ### as plain data -/
def zipS : D → D → Env → Rs (List D)
  | .lst xs, .lst ys, e => if xs.length = ys.length then .ok (zipF xs ys) e else .bad
  | _, _, _ => .bad
def mItS (a b : M R) : M (List D) := fun e => andThen (a e) fun r e1 => andThen (leak r e1) fun x e2 => andThen (b e2) fun q e3 => andThen (leak q e3) fun y e4 => zipS x y e4
end F
end

section
set_option Elab.async false
set_option linter.all false
set_option autoImplicit false
set_option maxRecDepth 100000
set_option maxHeartbeats 2000000
/-! F layer: zip(strict=True), range(a, b), chains of comparisons, [*xs, e], xs[a:b] = [..]. -/
namespace F
open PySem PySem.Spec PyProof.Rows L2
section
variable {X : Cx} {t : Tb} {W : WX} {P : Nat → Bool} {a b k v lo hi : Expr} {ma mb mc : M R} {pos p tpos kp cp apos p1 p2 : Pos} {elts : List Expr} {kk j i : Nat} {tg : Expr}
/-! ### range(a, b) -/
def mItR (a b : M R) : M (List D) := fun e => andThen (mRs [a, b] e) fun rs e1 => match peeks rs e1 with
  | some [.int i, .int j] => if (-4611686018427387904 ≤ i ∧ i < 4611686018427387904) ∧ -4611686018427387904 ≤ j ∧ j < 4611686018427387904 then .ok (rngF i (j - i).toNat) e1 else .bad
  | _ => .bad
theorem si_rng2 (hg : Gl X "range") (hm : X.mg "range" = none) (ha : SE X t W a ma) (hb : SE X t W b mb) (hs : starEach [a, b] X.env = (false, eval a X.env) :: starEach [b] X.env := by rfl) (hs2 : starEach [b] X.env = [(false, eval b X.env)] := by rfl) (hpl : (backTo pos (starEach [b] X.env)).any (·.1) = false := by rfl) :
    SI X t W tg (.Call (.Name "range" p) [a, b] [] pos) (mItR ma mb) := by
  refine PI.imp (pi_range2 hg hm (sa_cons ha (sa_cons hb sa_nil hs2) hs) (hs.trans (by rw [hs2])) hs2) fun σ H Q ⟨e, H0, Fr, as, rp, po⟩ => ?_
  refine ⟨e, H0, Fr, as, rp, Po.bind (f := fun rs e1 => match peeks rs e1 with
    | some [.int i, .int j] => if (-4611686018427387904 ≤ i ∧ i < 4611686018427387904) ∧ -4611686018427387904 ≤ j ∧ j < 4611686018427387904 then .ok (rngF i (j - i).toNat) e1 else .bad
    | _ => .bad) po fun rs e1 vs H1 H' s ⟨⟨as1, rp1⟩, ks⟩ po => ?_⟩
  split at po
  · rename_i i j q
    by_cases h : (-4611686018427387904 ≤ i ∧ i < 4611686018427387904) ∧ -4611686018427387904 ≤ j ∧ j < 4611686018427387904
    case neg => rw [if_neg h] at po; exact po.elim
    rw [if_pos h] at po
    obtain ⟨v, r, rfl, h1, h2⟩ := ks.peeks rp1 q
    obtain ⟨w, rfl, h3⟩ := Dats1.one h2
    have h1 : v = .int i := h1
    have h3 : w = .int j := h3
    subst h1 h3
    exact ⟨i, j, rfl, ⟨by omega, by omega, by omega, by omega⟩, po _ H1 H' (Same.refl _) ⟨⟨as1, rp1⟩, wk_rng⟩⟩
  · exact po.elim
/-! ### a == b == c -/
def mChain (f g : D → D → Option D) (a b c : M R) : M R := fun e => andThen (a e) fun r e1 => andThen (b e1) fun q e2 => ofO (peek (nrm r) e2) fun x => ofO (peek (nrm q) e2) fun y => ofO (f x y) fun z => match z with
  | .bl true => andThen (c e2) fun s e3 => ofO (peek (nrm q) e3) fun y => ofO (peek s e3) fun w => ofO (g y w) fun z => .ok (.d z) e3
  | .bl false => .ok (.d (.bl false)) e2
  | _ => .bad
/-! ### [*xs, ..] -/
def mStar (a : M R) (m : M (List D)) : M (List D) := fun e => andThen (a e) fun r e1 => andThen (leak r e1) fun d e2 => match d with
  | .lst l => andThen (m e2) fun ds e3 => .ok (l ++ ds) e3
  | .tup l => andThen (m e2) fun ds e3 => .ok (l ++ ds) e3
  | _ => .bad
def mLstD (m : M (List D)) : M R := fun e => andThen (m e) fun ds e1 => if ds.length ≤ lim then .ok (.ow (.fl ds)) e1 else .bad
/-! ### xs[a:b] = [..] -/
def sSlSto (i : Nat) (lo hi : Option (M R)) (v : M R) : MS := fun e => sOf (v e) fun r e1 => match r with
  | .ow (.fl ys) => (match F.slot e1 i with
    | some _ => sOf (mPt lo e1) fun p e2 => sOf (mPt hi e2) fun q e3 => (match F.slot e3 i, p, q with
      | some (.fl l), some p, some q => if 0 ≤ p ∧ p ≤ q ∧ q ≤ l.length ∧ l.length + ys.length ≤ lim then .nx (e3.set i (some (.fl (l.take p.toNat ++ ys ++ l.drop q.toNat)))) else .bad
      | _, _, _ => .bad)
    | none => .bad)
  | _ => .bad
/-- a run in a richer frame -/
theorem PoS.more {α β : Type} {c : Cn} {RR : Hp → Hp → Hp → Env → β → α → Prop} {Fr Fr' H0 : Hp} {σ : St} {En : Ends} {x : Rs α} {f : α → Env → SR} {k' : β → Hp → Prop} (po : PoS t c W P Fr σ H0 En (sOf x f)) (less : ∀ b o, Fr b = some o → Fr' b = some o)
    (hk : ∀ (a : α) (e : Env) (b : β) (H1 H' : Hp), Same H0 H1 → RR Fr' H1 H' e b a → PoS t c W P Fr σ H1 En (f a e) → k' b H') : Po t c W Fr' σ H0 (RR Fr') k' x := by
  cases x with
  | ok a e1 => exact fun b H1 H' s rr => hk a e1 b H1 H' s rr (PoS.mono s Prot.refl po)
  | ex k p e1 => exact fun H1 H' as cls dx s rp xa => po σ H1 H' as cls dx s Prot.refl (rp.less less) xa
  | bad => exact po
end
end F
end

section
set_option Elab.async false
set_option linter.all false
set_option autoImplicit false
set_option maxRecDepth 100000
set_option maxHeartbeats 2000000
/-! F layer: parts of the text by their places; lambdas that are never made. -/
namespace F
open PySem PySem.Spec PyProof.Rows L2
theorem LOk.up {P : Program} {w : World} {K : PySem.W.Frag} {mg : Str → Option Value} {base : Heap} {CX : CXT} {j k n : Nat} {F : LF} {sp : Sp} (o : LOk P w K mg base CX j F n sp) (h : j ≤ k) : LOk P w K mg base CX k F n sp := o.mono h
end F
end

section
set_option Elab.async false
set_option linter.all false
set_option autoImplicit false
set_option maxRecDepth 100000
set_option maxHeartbeats 2000000
/-! F layer: x, y = a, b where a name is captured: a tuple is made and taken apart. -/
namespace F
open PySem PySem.Spec PyProof.Rows L2
theorem RpO.alloc {c : Cn} {H0 Fr H : Hp} {σ : St} {e : Env} {vs : List V} {os : List O} (r : RpO c H0 Fr H σ e vs os) {p : Addr} {x : HO} (hp : H p = none) : Same H0 (upd H0 p x) ∧ RpO c (upd H0 p x) Fr (upd H p x) σ e vs os := by
  obtain ⟨bs, as, h, nd, off, rp⟩ := r
  obtain ⟨s1, rp1⟩ := rp.alloc (x := x) hp
  have ne : ∀ a ∈ bs, a ≠ p := fun a ha z => by
    obtain ⟨y, hy⟩ := OwnRs.here os vs bs h a ha
    rw [z, hp] at hy
    cases hy
  have ef : addF Fr (upd H p x) bs = addF Fr H bs := by
    funext a
    by_cases z : a ∈ bs
    · rw [addF_in z, addF_in z, upd_ne (ne a z)]
    · rw [addF_out z, addF_out z]
  exact ⟨s1, bs, as, OwnRs.mono s1 os vs bs (fun a ha => upd_ne (ne a ha)) h, nd, fun a ha => ⟨by rw [upd_ne (ne a ha)]; exact (off a ha).1, (off a ha).2⟩, by rw [ef]; exact rp1⟩
section
variable {X : Cx} {t : Tb} {W : WX} {P : Nat → Bool} {a b : Expr} {ma mb : M R} {pos : Pos}
theorem ss_parU {i j : Nat} {x y : Str} {px py pt : Pos} {kt k2 : Nat} {pt2 : Pos} (hPi : P i = false) (hPj : P j = false) (hc : X.calm = true) (hN : X.N.Nodup) (hi : X.N[i]? = some x) (hj : X.N[j]? = some y)
    (hx : Loc X.env.scope x) (hy : Loc X.env.scope y) (ha : SO X t W [a, b] (mOs [ma, mb]))
    (fx : X.fn x = true ∨ X.env.scope.names.lookup x = some .local := by first | exact .inl rfl | exact .inr rfl) (fy : X.fn y = true ∨ X.env.scope.names.lookup y = some .local := by first | exact .inl rfl | exact .inr rfl)
    (hw : swappedStores [.Tuple [.Name x px, .Name y py] kt pt] (.Tuple [a, b] k2 pt2) X.env = pure none := by rfl)
    (hs : swapsWithSole [.Tuple [.Name x px, .Name y py] kt pt] (.Tuple [a, b] k2 pt2) pos.line X.env = pure false := by rfl) :
    SS X t W P (.Assign [.Tuple [.Name x px, .Name y py] kt pt] (.Tuple [a, b] k2 pt2) pos) (sPar [i, j] [ma, mb]) := by
  refine PS.imp (ps_asg (pe_tup ha) (pg_tup hc (pgs_cons (pg_name hN hi hx fx) (pgs_cons (pg_name hN hj hy fy) pgs_nil))) hs hw) fun D σ H ⟨e, H0, Fr, as, rp, po⟩ => ?_
  refine ⟨e, H0, Fr, as, rp, PoS.of po fun os e1 vs H1 H' s ro po => ?_⟩
  obtain ⟨e2, q, po⟩ := PoS.ofOS po
  have two : ∃ o1 o2 v1 v2, os = [o1, o2] ∧ vs = [v1, v2] := by
    match os, q with
    | [o1, o2], q =>
      obtain ⟨_, _, ⟨v1, r1, _, _, h, _, _, ⟨v2, r2, _, _, h2, _, _, ⟨h3, _⟩⟩⟩, _⟩ := ro
      subst h3 h2 h
      exact ⟨o1, o2, v1, v2, rfl, rfl⟩
    | [], q => cases q
    | [_], q => cases q
    | _ :: _ :: _ :: _, q => cases q
  obtain ⟨o1, o2, v1, v2, rfl, rfl⟩ := two
  cases q
  refine ⟨by rw [sizeLine_lim]; show 2 ≤ lim; decide, fun p hp => ?_⟩
  obtain ⟨s1, ro1⟩ := ro.alloc (x := .tup [v1, v2]) hp
  obtain ⟨bs, as3, ⟨_, hb⟩, _, _, rp3⟩ := RpO.set (i := j) (RpO.set (i := i) ro1)
  subst hb
  rw [addF_nil] at rp3
  exact ⟨p, [v1, v2], rfl, SqT.of upd_same, rfl, v1, [v2], rfl, v2, [], rfl, rfl, po _ _ _ as3 s1 ((Prot.set hPi).trans (Prot.set hPj)) rp3⟩
end
end F
end

section
set_option Elab.async false
set_option linter.all false
set_option autoImplicit false
set_option maxRecDepth 100000
set_option maxHeartbeats 2000000
/-! F layer: the contents of a text as things of two kinds (5: a content, 6: a part), at rest in the heap. -/
namespace F
open PySem PySem.Spec PyProof.Rows L2 SlX
/-! ### plain -/
structure PR where
  first : Nat
  last : Nat
  inner : Option Nat
structure CR where
  word : List Nat
  start : Nat
  stop : Nat
  around : Option Nat
  row : List PR
  ended : Bool
structure TS where
  cs : List CR
  op : List Nat
def topS (t : TS) : Nat := t.op.headD 0
/-! ### in the heap -/
structure LayT where
  ca : Nat → Addr
  da : Nat → Addr
  ra : Nat → Addr
  pa : Nat → Nat → Addr
  pd : Nat → Nat → Addr
def refO (L : LayT) : Option Nat → V
  | none => .non
  | some j => .ref (L.ca j)
def fldsC (L : LayT) (k : Nat) (c : CR) : List (Str × V) := [("number", .int (k : Nat)), ("word", .str (sS c.word)), ("start", .int (c.start : Nat)), ("stop", .int (c.stop : Nat)), ("around", refO L c.around), ("row", .ref (L.ra k)), ("is_ended", .bl c.ended)]
def partVs (L : LayT) (p : PR) : List (Option V) := [some (.int (p.first : Nat)), some (refO L p.inner), some (.int (p.last : Nat))]
def rowV (L : LayT) (k : Nat) (c : CR) : List V := (List.range c.row.length).map fun j => V.ref (L.pa k j)
structure TreeH (CC PC : Addr) (H : Hp) (cs : List CR) (L : LayT) : Prop where
  c : ∀ k c, cs[k]? = some c → H (L.ca k) = some (.ins CC (L.da k) (fldsC L k c))
  r : ∀ k c, cs[k]? = some c → H (L.ra k) = some (.lst (rowV L k c))
  p : ∀ k c j q, cs[k]? = some c → c.row[j]? = some q → Slt H (L.pa k j) PC (L.pd k j) (partVs L q)
theorem Slt.same {H H' : Hp} {a C dx : Addr} {vs : List (Option V)} (s : Same H H') (h : Slt H a C dx vs) : Slt H' a C dx vs := by
  rcases h with ⟨h1, h2⟩ | ⟨h1, h2⟩
  · exact .inl ⟨s _ _ h1, h2⟩
  · exact .inr ⟨s _ _ h1, s _ _ h2⟩
theorem TreeH.mono {CC PC : Addr} {H H' : Hp} {cs : List CR} {L : LayT} (t : TreeH CC PC H cs L) (s : Same H H') : TreeH CC PC H' cs L :=
  ⟨fun k c e => s _ _ (t.c k c e), fun k c e => s _ _ (t.r k c e), fun k c j q e e2 => Slt.same s (t.p k c j q e e2)⟩
/-! ### attributes -/
section
variable {c : Cn} {CC PC : Addr} {f : Str}
end
section
variable {X : Cx} {t : Tb} {W : WX} {e : Expr} {me : M R} {f : Str} {pos : Pos} {CC PC : Addr}
end
end F
end

section
set_option Elab.async false
set_option linter.all false
set_option autoImplicit false
set_option maxRecDepth 100000
/-! the plain tree of a text: bounds -/
namespace F
def BdC (n m : Nat) (cs : List CR) : Prop := ∀ c ∈ cs, c.row.length ≤ m ∧ c.word.length ≤ lim ∧ (∀ j, c.around = some j → j < n) ∧ ∀ q ∈ c.row, ∀ j, q.inner = some j → j < n
theorem BdC.mono {n n' m m' : Nat} {cs : List CR} (h : BdC n m cs) (h1 : n ≤ n') (h2 : m ≤ m') : BdC n' m' cs := fun c hc => by
  obtain ⟨a1, a2, a3, a4⟩ := h c hc
  exact ⟨by omega, a2, fun j hj => Nat.lt_of_lt_of_le (a3 j hj) h1, fun q hq j hj => Nat.lt_of_lt_of_le (a4 q hq j hj) h1⟩
structure OkS (m : Nat) (t : TS) : Prop where
  b : BdC t.cs.length m t.cs
  o : ∀ k ∈ t.op, k < t.cs.length
  n : t.op ≠ []
theorem OkS.top {m : Nat} {t : TS} (h : OkS m t) : topS t < t.cs.length ∧ topS t ∈ t.op := by
  unfold topS
  cases q : t.op with
  | nil => exact absurd q h.n
  | cons k l => exact ⟨h.o k (by rw [q]; exact List.mem_cons_self ..), List.mem_cons_self ..⟩
end F
end

section
set_option Elab.async false
set_option linter.all false
set_option autoImplicit false
set_option maxRecDepth 100000
set_option maxHeartbeats 2000000
/-! F layer: a heap that only got new things: all of them may be told of from then on. -/
namespace F
open PySem PySem.Spec PyProof.Rows L2
end F
end

section
set_option Elab.async false
set_option linter.all false
set_option autoImplicit false
set_option maxRecDepth 100000
set_option maxHeartbeats 2000000
/-! F layer: what `tree` promises. -/
namespace F
open PySem PySem.Spec PyProof.Rows L2 SlX
/-- the things of the tree are new -/
def NewT (H : Hp) (cs : List CR) (L : LayT) : Prop := ∀ (k : Nat) (c : CR), cs[k]? = some c → H (L.ca k) = none ∧ H (L.ra k) = none ∧ ∀ j, j < c.row.length → H (L.pa k j) = none ∧ H (L.pd k j) = none
end F
end

section
set_option Elab.async false
set_option linter.all false
set_option autoImplicit false
set_option maxRecDepth 100000
set_option maxHeartbeats 2000000
/-! the plain tree: how many contents -/
namespace F
end F
end

section
set_option Elab.async false
set_option linter.all false
set_option autoImplicit false
set_option maxRecDepth 100000
set_option maxHeartbeats 2000000
/-! F layer: the walk of `tree`: what stands in the heap on the way. -/
namespace F
open PySem PySem.Spec PyProof.Rows L2 SlX
/-- behind Hs: the list found at fa, the stack at oa (its top last), the contents of t by L; all of it new, the contents and their rows apart -/
structure StT (CC PC : Addr) (Hs H : Hp) (t : TS) (L : LayT) (fa oa : Addr) : Prop where
  same : Same Hs H
  new : NewT Hs t.cs L
  nf : Hs fa = none
  no : Hs oa = none
  fo : fa ≠ oa
  found : H fa = some (.lst ((List.range t.cs.length).map fun k => V.ref (L.ca k)))
  opened : H oa = some (.lst (t.op.reverse.map fun k => V.ref (L.ca k)))
  tree : TreeH CC PC H t.cs L
  ci : ∀ i j, i < t.cs.length → j < t.cs.length → L.ca i = L.ca j → i = j
  ri : ∀ i j, i < t.cs.length → j < t.cs.length → L.ra i = L.ra j → i = j
  rf : ∀ i, i < t.cs.length → L.ra i ≠ fa ∧ L.ra i ≠ oa
/-- with the part at y as the last of content k -/
def LayT.more (L : LayT) (k n : Nat) (y dy : Addr) : LayT := { L with pa := fun i j => if i = k ∧ j = n then y else L.pa i j, pd := fun i j => if i = k ∧ j = n then dy else L.pd i j }
end F
end

section
set_option Elab.async false
set_option linter.all false
set_option autoImplicit false
set_option maxRecDepth 100000
set_option maxHeartbeats 2000000
/-! F layer: the walk of `tree`: the heap's steps. -/
namespace F
open PySem PySem.Spec PyProof.Rows L2 SlX
/-- what stood stands, but for those of S -/
def KpE (H H' : Hp) (S : Addr → Prop) : Prop := ∀ b o, H b = some o → ¬ S b → H' b = some o
theorem slO_lst {a C dx : Addr} {vs : List (Option V)} {xs : List V} : SlO a C dx vs ≠ .lst xs := fun z => by
  unfold SlO at z
  cases z
theorem slO_ins {a C dx C2 d2 : Addr} {vs : List (Option V)} {fs : List (Str × V)} : SlO a C dx vs ≠ .ins C2 d2 fs := fun z => by
  unfold SlO at z
  cases z
section
variable {CC PC : Addr} {Hs H H' : Hp} {t : TS} {L : LayT} {fa oa : Addr}
theorem StT.up (h : StT CC PC Hs H t L fa oa) (s : Same H H') : StT CC PC Hs H' t L fa oa :=
  ⟨h.same.trans s, h.new, h.nf, h.no, h.fo, s _ _ h.found, s _ _ h.opened, h.tree.mono s, h.ci, h.ri, h.rf⟩
/-- a part's place -/
theorem StT.part (h : StT CC PC Hs H t L fa oa) {k j : Nat} {c : CR} {q : PR} (e : t.cs[k]? = some c) (e2 : c.row[j]? = some q) : H (L.pa k j) = some (SlO (L.pa k j) PC (L.pd k j) (partVs L q)) ∧ H (L.pd k j) = some (.xd []) := by
  rcases h.tree.p k c j q e e2 with ⟨_, z⟩ | z
  · cases z
  · exact z
theorem getk {k : Nat} {cs : List CR} (h : k < cs.length) : ∃ c, cs[k]? = some c := ⟨_, List.getElem?_eq_getElem h⟩
theorem StT.ca_fa (h : StT CC PC Hs H t L fa oa) {k : Nat} (hk : k < t.cs.length) : L.ca k ≠ fa ∧ L.ca k ≠ oa := by
  obtain ⟨c, e⟩ := getk hk
  exact ⟨ne_of (h.tree.c k c e) h.found (by intro q; cases q), ne_of (h.tree.c k c e) h.opened (by intro q; cases q)⟩
/-- the tree over a heap that keeps what stood, but for S, S no part and no field of the tree -/
theorem TreeH.keepE {cs : List CR} {S : Addr → Prop} (h : TreeH CC PC H cs L) (k : KpE H H' S) (hc : ∀ i c, cs[i]? = some c → ¬ S (L.ca i)) (hr : ∀ i c, cs[i]? = some c → ¬ S (L.ra i))
    (hp : ∀ i c j q, cs[i]? = some c → c.row[j]? = some q → ¬ S (L.pa i j) ∧ ¬ S (L.pd i j)) : TreeH CC PC H' cs L :=
  ⟨fun i c e => k _ _ (h.c i c e) (hc i c e), fun i c e => k _ _ (h.r i c e) (hr i c e), fun i c j q e e2 => by
    obtain ⟨h1, h2⟩ := hp i c j q e e2
    rcases h.p i c j q e e2 with ⟨a, b⟩ | ⟨a, b⟩
    · exact .inl ⟨k _ _ a h1, b⟩
    · exact .inr ⟨k _ _ a h1, k _ _ b h2⟩⟩
/-- what is not of the tree's kind -/
theorem StT.notLst (h : StT CC PC Hs H t L fa oa) {a : Addr} {xs : List V} (ha : H a = some (.lst xs)) : (∀ i c, t.cs[i]? = some c → ¬ L.ca i = a) ∧ ∀ i c j q, t.cs[i]? = some c → c.row[j]? = some q → ¬ L.pa i j = a ∧ ¬ L.pd i j = a :=
  ⟨fun i c e => ne_of (h.tree.c i c e) ha (by intro q; cases q), fun i c j q e e2 => ⟨ne_of (h.part e e2).1 ha slO_lst, ne_of (h.part e e2).2 ha (by intro q; cases q)⟩⟩
theorem StT.notIns (h : StT CC PC Hs H t L fa oa) {a C dx : Addr} {fs : List (Str × V)} (ha : H a = some (.ins C dx fs)) : (∀ i c, t.cs[i]? = some c → ¬ L.ra i = a) ∧ ∀ i c j q, t.cs[i]? = some c → c.row[j]? = some q → ¬ L.pa i j = a ∧ ¬ L.pd i j = a :=
  ⟨fun i c e => ne_of (h.tree.r i c e) ha (by intro q; cases q), fun i c j q e e2 => ⟨ne_of (h.part e e2).1 ha slO_ins, ne_of (h.part e e2).2 ha (by intro q; cases q)⟩⟩
theorem KpE.same {S : Addr → Prop} (k : KpE H H' S) (s : Same Hs H) (hn : ∀ b, S b → Hs b = none) : Same Hs H' := fun b o e => k b o (s b o e) fun z => by
  rw [hn b z] at e
  cases e
/-- the stack changed alone -/
theorem StT.stack (h : StT CC PC Hs H t L fa oa) {op : List Nat} (k : KpE H H' (· = oa)) (e : H' oa = some (.lst (op.reverse.map fun k => V.ref (L.ca k)))) : StT CC PC Hs H' ⟨t.cs, op⟩ L fa oa := by
  obtain ⟨n1, n2⟩ := h.notLst h.opened
  exact ⟨k.same h.same fun b z => by rw [z]; exact h.no, h.new, h.nf, h.no, h.fo, k _ _ h.found h.fo, e, h.tree.keepE k n1 (fun i c e => (h.rf i (List.getElem?_eq_some_iff.mp e).1).2) n2, h.ci, h.ri, h.rf⟩
/-- a content's end is noted -/
theorem StT.set (h : StT CC PC Hs H t L fa oa) {i stop : Nat} {b : Bool} {c : CR} (e : t.cs[i]? = some c) (k : KpE H H' (· = L.ca i)) (e1 : H' (L.ca i) = some (.ins CC (L.da i) (fldsC L i { c with stop := stop, ended := b }))) :
    StT CC PC Hs H' ⟨t.cs.modify i fun c => { c with stop := stop, ended := b }, t.op⟩ L fa oa := by
  have hi := (List.getElem?_eq_some_iff.mp e).1
  obtain ⟨n1, n2⟩ := h.notIns (h.tree.c i c e)
  have gm : ∀ j d, (t.cs.modify i fun c => { c with stop := stop, ended := b })[j]? = some d → ∃ d0, t.cs[j]? = some d0 ∧ d.row = d0.row ∧ (j ≠ i → d = d0) ∧ (j = i → d = { c with stop := stop, ended := b }) := fun j d hd => by
    rw [List.getElem?_modify] at hd
    cases q : t.cs[j]? with
    | none =>
      rw [q] at hd
      cases hd
    | some d0 =>
      rw [q] at hd
      refine ⟨d0, rfl, ?_⟩
      have hd : some (if i = j then { d0 with stop := stop, ended := b } else d0) = some d := hd
      by_cases z : i = j
      · rw [if_pos z] at hd
        cases hd
        refine ⟨rfl, fun w => absurd z.symm w, fun _ => ?_⟩
        rw [z] at e
        rw [e] at q
        cases q
        rfl
      · rw [if_neg z] at hd
        cases hd
        exact ⟨rfl, fun _ => rfl, fun w => absurd w.symm z⟩
  have hl : (t.cs.modify i fun c => { c with stop := stop, ended := b }).length = t.cs.length := List.length_modify ..
  refine ⟨k.same h.same fun b z => by rw [z]; exact (h.new i c e).1, fun j d hd => ?_, h.nf, h.no, h.fo, ?_, k _ _ h.opened (h.ca_fa hi).2.symm, ⟨fun j d hd => ?_, fun j d hd => ?_, fun j d m q hd hq => ?_⟩, ?_, ?_, ?_⟩
  · obtain ⟨d0, a1, a2, _, _⟩ := gm j d hd
    rw [a2]
    exact h.new j d0 a1
  · rw [hl]
    exact k _ _ h.found (h.ca_fa hi).1.symm
  · obtain ⟨d0, a1, a2, a3, a4⟩ := gm j d hd
    by_cases z : j = i
    · rw [a4 z, z]
      exact e1
    · rw [a3 z]
      exact k _ _ (h.tree.c j d0 a1) fun w => z (h.ci j i (List.getElem?_eq_some_iff.mp a1).1 hi w)
  · obtain ⟨d0, a1, a2, _, _⟩ := gm j d hd
    have z : rowV L j d = rowV L j d0 := by
      unfold rowV
      rw [a2]
    rw [z]
    exact k _ _ (h.tree.r j d0 a1) (n1 j d0 a1)
  · obtain ⟨d0, a1, a2, _, _⟩ := gm j d hd
    rw [a2] at hq
    obtain ⟨p1, p2⟩ := h.part a1 hq
    obtain ⟨m1, m2⟩ := n2 j d0 m q a1 hq
    exact .inr ⟨k _ _ p1 m1, k _ _ p2 m2⟩
  · intro a b
    show _ < (t.cs.modify i _).length → _ < (t.cs.modify i _).length → _
    rw [hl]
    exact h.ci a b
  · intro a b
    show _ < (t.cs.modify i _).length → _ < (t.cs.modify i _).length → _
    rw [hl]
    exact h.ri a b
  · intro a
    show _ < (t.cs.modify i _).length → _
    rw [hl]
    exact h.rf a
/-- with the content at x as the n-th -/
def LayT.opn (L : LayT) (n : Nat) (x dx l : Addr) : LayT := { L with ca := fun i => if i = n then x else L.ca i, da := fun i => if i = n then dx else L.da i, ra := fun i => if i = n then l else L.ra i }
end
end F
end

section
set_option Elab.async false
set_option linter.all false
set_option maxRecDepth 100000
set_option maxHeartbeats 2000000
/-! F layer: next of a generator expression over a list of signs, with a text as default; calls with one keyword; defs as values. -/
namespace F
open PySem PySem.Spec PyProof.Rows L2
section
variable {X : Cx} {pins : List (Addr × Obj)} {σ : L2.St} {H : Hp} {s : Shared}
end
section
variable {X : Cx}
end
section
variable {X : Cx} {t : Tb} {W : WX} {P : Nat → Bool}
end
/-! ### calls with one keyword -/
section
variable {X : Cx} {t : Tb} {W : WX} {c : Cn}
variable {CX : CXT} {k n : Nat} {f : Addr} {fd : FuncData} {ps ks : List Str} {sp : Sp} {E : L2.St → XK} {g : List Value → List Value → List Value} {gV : List V → List V → List V}
variable {x kw : Str} {a v : Expr} {es : List Expr} {p pos kpos : Pos} {ta : TA} {tv : TE} {ms : List (M R)} {mv : M R} {Z : Fn} {kk : Nat}
end
end F
end

section
set_option Elab.async false
set_option linter.all false
set_option autoImplicit false
set_option maxRecDepth 100000
set_option maxHeartbeats 2000000
/-! F layer: described things of several kinds at once; what the written part must say of the classes of contents and parts; defs as values. -/
namespace F
open PySem PySem.Spec PyProof.Rows L2 SlX
section
variable {mk : Nat → Addr → LF} {CC PC : Addr} {N : Nat} {da : Nat → Addr} {k : Nat} {d : D} {v : V} {H H' : Hp}
end
/-! ### the classes -/
structure TreeF (K : PySem.W.Frag) (CC PC : Addr) : Prop where
  cl : Cls K CC
  mc : Mk K CC (He.ma K CC "__init__")
  en : Meth K CC "end" (He.ma K CC "end")
  n1 : NoAttr K CC "number"
  n2 : NoAttr K CC "word"
  n3 : NoAttr K CC "start"
  n4 : NoAttr K CC "stop"
  n5 : NoAttr K CC "around"
  n6 : NoAttr K CC "row"
  n7 : NoAttr K CC "is_ended"
  sc : SCls K PC
  mp : Mk K PC (He.ma K PC "__init__")
  s0 : Slot1 K PC "first" (slAd K PC "first") 0
  s1 : Slot1 K PC "last" (slAd K PC "last") 2
  s2 : Slot1 K PC "inner" (slAd K PC "inner") 1
/-! ### defs -/
theorem FnOk.up {P : Program} {w : World} {K : PySem.W.Frag} {mg : Str → Option Value} {base : Heap} {CX : CXT} {k : Nat} {f : Addr} {fd : FuncData} {ps : List Str} {sp : Sp} (F : FnOk P w K mg base CX0 k f fd ps sp) : FnOk P w K mg base CX k f fd ps sp :=
  ⟨F.len, fun A outer s H args us vs Q E hr he hb hv hs => codeAny_mono (F.run A outer s H args us vs Q E hr he hb hv hs) fun r s' h => by
    cases r with
    | ok fl => cases fl <;> exact h
    | error e => exact h.elim⟩
/-! ### calls of names that hold defs -/
section
variable {X : Cx} {t : Tb} {W : WX} {CX : CXT} {k kk n i N : Nat} {da : Nat → Addr} {x kw : Str} {a v : Expr} {es : List Expr} {p pos kpos : Pos} {ta : TA} {tv : TE} {ms : List (M R)} {mv : M R} {Zs : Nat → Fn}
end
end F
end

section
set_option Elab.async false
set_option linter.all false
set_option autoImplicit false
set_option maxRecDepth 100000
set_option maxHeartbeats 2000000
/-! zip(a, b, strict=True) of a list and a tuple of one length, walked. -/
namespace F
open PySem PySem.Spec PyProof.Rows L2
section
variable {prog : Program} {w : World} {A : Around} {E : Value → Shared → Prop} {s : Shared}
variable {z ti to i1 i2 l1 l2 : Addr} {k1 k2 : Nat} {xs ys : Array Value}
end
section
variable {prog : Program} {w : World} {A : Around} {E : Value → Shared → Prop} {s : Shared}
end
section
variable {X : Cx} {t : Tb} {W : WX} {P : Nat → Bool} {a b k v lo hi : Expr} {ma mb mc : M R} {pos p tpos kp cp apos p1 p2 : Pos} {elts : List Expr} {kk j i : Nat} {tg : Expr}
end
end F
namespace F
open PySem PySem.Spec PyProof.Rows L2
theorem FnQ.mono {P : Program} {w : World} {K : PySem.W.Frag} {mg : Str → Option Value} {base : Heap} {CX : CXT} {j k : Nat} {f : Addr} {fd : FuncData} {ps : List Str} {sp : Sp} (G : FnQ P w K mg base CX j f fd ps sp) (h : j ≤ k) : FnQ P w K mg base CX k f fd ps sp :=
  ⟨G.len, fun B out st H ar us vs Q E hr => G.run B out st H ar us vs Q E (hr.mono h)⟩
end F
end

section
set_option Elab.async false
set_option linter.all false
set_option autoImplicit false
set_option maxRecDepth 100000
set_option maxHeartbeats 2000000
/-! F layer: instances of own classes: fields, methods, properties, len. -/
namespace F
open PySem PySem.Spec PyProof.Rows L2
/-! ### fields -/
section
variable {X : Cx} {t : Tb} {W : WX} {o : Expr} {mo : M R} {f : Str} {pos : Pos} {k : Nat}
/-! ### an instance, kept from now on -/
/-! ### methods -/
variable {CX : CXT} {kk n : Nat} {m : Str} {C g : Addr} {fd : FuncData} {ps : List Str} {sp : Sp} {ds : List Value} {dvs : List V} {E : L2.St → XK} {ta : TE} {tt : TA} {e : Expr} {es : List Expr} {apos : Pos}
variable {Z : Fn} {dfl : List D} {ms : List (M R)} {k2 : Nat}
/-! ### properties -/
/-! ### len -/
end
end F
end

section
set_option Elab.async false
set_option linter.all false
set_option autoImplicit false
set_option maxRecDepth 100000
set_option maxHeartbeats 2000000
/-! F layer: len of an instance; fields stored; instances made. -/
namespace F
open PySem PySem.Spec PyProof.Rows L2
section
variable {X : Cx} {t : Tb} {W : WX} {o : Expr} {mo : M R} {k kk n : Nat} {Z : Fn} {p pos : Pos} {g : Addr}
end
/-! ### fields stored -/
section
variable {X : Cx} {t : Tb} {W : WX} {P : Nat → Bool} {a : Expr} {ma : M R} {pos px pos' : Pos} {k i j : Nat} {f x : Str}
end
end F
end

section
set_option Elab.async false
set_option linter.all false
set_option autoImplicit false
set_option maxRecDepth 100000
set_option maxHeartbeats 2000000
/-! F layer: instances made. -/
namespace F
open PySem PySem.Spec PyProof.Rows L2
section
variable {X : Cx} {t : Tb} {W : WX} {k n : Nat} {Z : Fn} {ms : List (M R)} {dfl : List D} {dvs : List V} {σ : L2.St} {H : Hp} {Q : VK}
end
section
variable {X : Cx} {t : Tb} {W : WX} {CX : CXT} {k n m : Nat} {C f : Addr} {fd : FuncData} {ps ks : List Str} {sp : Sp} {ds : List Value} {dvs : List V} {E : L2.St → XK} {g : List Value → List Value → List Value} {gV : List V → List V → List V}
variable {x kw : Str} {a v : Expr} {es : List Expr} {p pos kpos : Pos} {ms : List (M R)} {mv : M R} {Z : Fn} {kk : Nat} {dfl : List D}
end
end F
end

section
set_option Elab.async false
set_option linter.all false
set_option autoImplicit false
set_option maxRecDepth 100000
set_option maxHeartbeats 2000000
/-! F layer: properties whose getter hands out a field. -/
namespace F
open PySem PySem.Spec PyProof.Rows L2
section
variable {X : Cx} {t : Tb} {W : WX} {o : Expr} {mo : M R} {f h : Str} {pos : Pos} {k kk i : Nat}
end
end F
end

section
set_option Elab.async false
set_option linter.all false
set_option autoImplicit false
set_option maxRecDepth 100000
set_option maxHeartbeats 2000000
/-! F layer: range(a, b, -1), list(range(..)), xs[::-1], sorted of ints, max with a default, a & b, chains of three. -/
namespace F
open PySem PySem.Spec PyProof.Rows L2
/-! ### range(a, b, -1) -/
section
variable {X : Cx} {t : Tb} {W : WX} {P : Nat → Bool} {a b d v lo hi e : Expr} {ma mb mc md : M R} {pos p tpos kp cp apos p1 p2 p3 : Pos} {elts : List Expr} {kk j i : Nat} {tg : Expr}
/-! ### list(range(..)) -/
/-! ### xs[::-1] -/
/-! ### sorted, ints -/
end
end F
end

section
set_option Elab.async false
set_option linter.all false
set_option autoImplicit false
set_option maxRecDepth 100000
set_option maxHeartbeats 2000000
/-! F layer: max with a default, a & b, chains of three comparisons. -/
namespace F
open PySem PySem.Spec PyProof.Rows L2
section
variable {X : Cx} {t : Tb} {W : WX} {a b c d : Expr} {ma mb mc md : M R} {pos p kp cp : Pos} {j : Nat}
/-! ### a op b op c op d, as a test -/
end
end F
end

section
set_option Elab.async false
set_option linter.all false
set_option autoImplicit false
set_option maxRecDepth 100000
set_option maxHeartbeats 2000000
/-! F layer: dict comprehensions. -/
namespace F
open PySem PySem.Spec PyProof.Rows L2
section
variable {J : It} {n : Nat} {G : Hp → Prop} {Y : Nat → Hp → V → Hp → Prop}
end
section
variable {X : Cx} {t : Tb} {W : WX}
variable {kx vx target iter : Expr} {ifs : List Expr} {scope : Scope} {own : List (Str × Nat)} {pos spos py : Pos} {tg : Tg} {mi : M (List D)} {mc : M Bool} {mk mv : M R} {P : Nat → Bool}
end
end F
end

section
set_option Elab.async false
set_option linter.all false
set_option autoImplicit false
set_option maxRecDepth 100000
set_option maxHeartbeats 2000000
/-! F layer: k in d, sorted(d), list(d), sum, max of a list. -/
namespace F
open PySem PySem.Spec PyProof.Rows L2
section
variable {X : Cx} {t : Tb} {W : WX} {a b o e : Expr} {ma mb : M R} {pos p px : Pos} {i : Nat} {e1 : Str}
/-! ### sorted(d), the keys ints -/
/-! ### sum, max -/
/-! ### list(d), d a name's own dict -/
end
end F
end

section
set_option Elab.async false
set_option linter.all false
set_option autoImplicit false
set_option maxRecDepth 100000
set_option maxHeartbeats 2000000
/-! F layer: self.a, self.b = e; for k in a dict that was just made. -/
namespace F
open PySem PySem.Spec PyProof.Rows L2
section
variable {X : Cx} {t : Tb} {W : WX} {P : Nat → Bool} {a : Expr} {ma : M R} {pos px pos' px2 pos2 pt : Pos} {k i j : Nat} {f g x : Str}
end
section
variable {X : Cx} {t : Tb} {W : WX} {a : Expr} {ma : M R}
end
/-! ### a field of an instance that a name alone holds -/
theorem OwnRs.get {c : Cn} {H0 H : Hp} : ∀ {os : List O} {vs : List V} {as : List Addr} {i : Nat} {d : F.D}, OwnRs c H0 H os vs as → os[i]? = some (.sh d) → ∃ w, vs[i]? = some w ∧ Dat c H0 d w
  | [], _, _, _, _, _, e => by cases e
  | o :: os, vs, as, i, d, ⟨v, r, bs, cs, e1, e2, h3, h4⟩, e => by
    subst e1 e2
    cases i with
    | zero =>
      have e : some o = some (.sh d) := e
      cases e
      exact ⟨v, rfl, h3.2⟩
    | succ i =>
      obtain ⟨w, g1, g2⟩ := OwnRs.get h4 (by simpa using e : os[i]? = some (.sh d))
      exact ⟨w, by simpa using g1, g2⟩
section
variable {X : Cx} {t : Tb} {W : WX} {o : Expr} {mo : M R} {f : Str} {pos : Pos} {k : Nat}
end
end F
end

section
set_option Elab.async false
set_option linter.all false
set_option autoImplicit false
set_option maxRecDepth 100000
set_option maxHeartbeats 2000000
/-! F layer: names that hold defs called with values alone; the length of a dict. -/
namespace F
open PySem PySem.Spec PyProof.Rows L2
section
variable {X : Cx} {t : Tb} {W : WX} {CX : CXT} {k kk n i N : Nat} {da : Nat → Addr} {x : Str} {a : Expr} {es : List Expr} {p pos : Pos} {ta : TA} {ms : List (M R)} {Zs : Nat → Fn} {df : Nat → List D}
end
section
variable {X : Cx} {t : Tb} {W : WX} {P : Nat → Bool} {a b c' d' : Expr} {ma mb mc md : M R} {pos : Pos}
end
/-! ### len of a dict -/
end F
end

section
set_option Elab.async false
set_option linter.all false
set_option autoImplicit false
set_option maxRecDepth 100000
set_option maxHeartbeats 2000000
/-! F layer: dicts of ints that were locked when they were walked: things of the kind 7. -/
namespace F
open PySem PySem.Spec PyProof.Rows L2
section
variable {mk : Nat → Addr → LF} {CC PC : Addr} {N : Nat} {da : Nat → Addr}
end
/-! ### read -/
section
variable {c : Cn} {H0 H : Hp}
end
section
variable {X : Cx} {t : Tb} {W : WX} {a b : Expr} {ma mb : M R} {pos p p1 : Pos} {i : Nat}
/-! ### walked -/
end
end F
end

section
set_option Elab.async false
set_option linter.all false
set_option autoImplicit false
set_option maxRecDepth 100000
set_option maxHeartbeats 2000000
/-! F layer: defs whose promise holds wherever they are called; generator defs, drained by list. -/
namespace F
open PySem PySem.Spec PyProof.Rows L2
section
variable {X : Cx} {CX : CXT} {k : Nat} {f : Addr} {fd : FuncData} {ps : List Str} {sp : Sp} {ds : List Value} {dvs : List V} {E : St → XK}
end
section
variable {X : Cx} {t : Tb} {W : WX} {a o : Expr} {es : List Expr} {ms : List (M R)} {mo : M R} {pos p apos : Pos} {x m : Str} {k kk k2 n : Nat} {Z : Fn} {dfl : List D}
end
/-! ### a def's promise by its body -/
section
variable {P : Program} {w : World} {K : PySem.W.Frag} {mg : Str → Option Value} {base : Heap} {t : Tb}
end
/-! ### generators: statements that hand things out -/
inductive GRs where
  | nx (e : Env) (ys : List D) | rt (e : Env) (ys : List D) | bk (e : Env) (ys : List D) | ct (e : Env) (ys : List D) | ex (c : Nat) (p : D) (e : Env) | bad
abbrev MG := Env → List D → GRs
def PoG (t : Tb) (c : Cn) (W : WX) (Fr H0 : Hp) (D : GEnds) : GRs → Prop
  | .nx e ys => ∀ σ' H1 H' as ws, Same H0 H1 → Rp c H1 Fr H' σ' e as → Dats c H1 ys ws → D.nx ws σ' H'
  | .bk e ys => ∀ σ' H1 H' as ws, Same H0 H1 → Rp c H1 Fr H' σ' e as → Dats c H1 ys ws → D.bk ws σ' H'
  | .ct e ys => ∀ σ' H1 H' as ws, Same H0 H1 → Rp c H1 Fr H' σ' e as → Dats c H1 ys ws → D.ct ws σ' H'
  | .rt e ys => ∀ σ' H1 H' as ws, Same H0 H1 → Rp c H1 Fr H' σ' e as → Dats c H1 ys ws → D.rt ws .non H'
  | .ex k p e => ∀ σ' H1 H' as cls dx, Same H0 H1 → Rp c H1 Fr H' σ' e as → ExA t c H1 H' k p cls dx → W cls dx σ' H'
  | .bad => False
theorem GS.imp {X : Cx} {s : Stmt} {u u' : TGn} (h : GS X s u) (k : ∀ D ys σ H, u' D ys σ H → u D ys σ H) : GS X s u' := ⟨fun A S ip R n ys s0 c fs K J gd lv s σ H D g hn gk hI q => h.run A S ip R n ys s0 c fs K J gd lv s σ H D g hn gk hI (k _ _ _ _ q)⟩
theorem GSs.imp {X : Cx} {s : List Stmt} {u u' : TGn} (h : GSs X s u) (k : ∀ D ys σ H, u' D ys σ H → u D ys σ H) : GSs X s u' := ⟨fun A S ip R n ys s0 c fs K J gd lv s σ H D g hn gk hI q => h.run A S ip R n ys s0 c fs K J gd lv s σ H D g hn gk hI (k _ _ _ _ q)⟩
section
variable {X : Cx} {t : Tb} {W : WX} {pr : Nat → Bool} {st : Stmt} {rest : List Stmt} {Fr H0 H1 : Hp} {D : GEnds} {c : Cn}
theorem PoG.mono {x : GRs} (s : Same H0 H1) (h : PoG t c W Fr H0 D x) : PoG t c W Fr H1 D x := by
  cases x with
  | nx e ys => exact fun σ' H2 H' as ws s2 => h σ' H2 H' as ws (s.trans s2)
  | bk e ys => exact fun σ' H2 H' as ws s2 => h σ' H2 H' as ws (s.trans s2)
  | ct e ys => exact fun σ' H2 H' as ws s2 => h σ' H2 H' as ws (s.trans s2)
  | rt e ys => exact fun σ' H2 H' as ws s2 => h σ' H2 H' as ws (s.trans s2)
  | ex k q e => exact fun σ' H2 H' as cls dx s2 => h σ' H2 H' as cls dx (s.trans s2)
  | bad => exact h
end
/-! ### a generator def -/
theorem Po.imp {α β : Type} {t : Tb} {c : Cn} {W : WX} {RR : Hp → Hp → Env → β → α → Prop} {Q Q' : β → Hp → Prop} {Fr H0 : Hp} {σ : St} {x : Rs α} (k : ∀ b H, Q b H → Q' b H) (h : Po t c W Fr σ H0 RR Q x) : Po t c W Fr σ H0 RR Q' x := by
  cases x with
  | ok a e => exact fun b H1 H' s rr => k _ _ (h b H1 H' s rr)
  | ex k' p e => exact h
  | bad => exact h
section
variable {X : Cx} {t : Tb} {W : WX} {a o : Expr} {es : List Expr} {ms : List (M R)} {mo : M R} {pos pos' p apos : Pos} {m nm : Str} {k kk k2 n j : Nat} {g : MG}
end
end F
end

section
set_option Elab.async false
set_option linter.all false
set_option autoImplicit false
set_option maxRecDepth 100000
/-! F layer: sorted of a list of texts of one sign each. -/
namespace F
open PySem PySem.Spec PyProof.Rows L2
def chsOf : List D → Option (List Nat)
  | [] => some []
  | .str [k] :: r => (chsOf r).map (k :: ·)
  | _ => none
theorem chsOf_map : ∀ {l : List D} {cs : List Nat}, chsOf l = some cs → l = cs.map fun k => D.str [k]
  | [], cs, h => by
    cases h
    rfl
  | .str [k] :: r, cs, h => by
    obtain ⟨ds, e1, e2⟩ := Option.map_eq_some_iff.mp (show (chsOf r).map (k :: ·) = some cs from h)
    subst e2
    rw [chsOf_map e1]
    rfl
  | .str [] :: r, cs, h => by cases h
  | .str (_ :: _ :: _) :: r, cs, h => by cases h
  | .non :: r, cs, h => by cases h
  | .bl _ :: r, cs, h => by cases h
  | .int _ :: r, cs, h => by cases h
  | .tup _ :: r, cs, h => by cases h
  | .lst _ :: r, cs, h => by cases h
  | .dct _ :: r, cs, h => by cases h
  | .obj _ _ :: r, cs, h => by cases h
  | .ex _ _ :: r, cs, h => by cases h
theorem chsOf_of : ∀ cs : List Nat, chsOf (cs.map fun k => D.str [k]) = some cs
  | [] => rfl
  | k :: cs => by
    show (chsOf (cs.map fun k => D.str [k])).map (k :: ·) = _
    rw [chsOf_of cs]
    rfl
theorem strs_chs : ∀ {cs : List Nat} {c : Cn} {H : Hp} {vs : List V}, Dats c H (cs.map fun k => D.str [k]) vs → vs = (cs.map mkC).map V.str
  | [], c, H, vs, h => h
  | k :: cs, c, H, vs, h => by
    obtain ⟨v, r, e, h1, h2⟩ := h
    subst e
    have e1 : v = V.str (mkC k) := (show v = V.str (sS [k]) ∧ [k].length ≤ lim from h1).1
    rw [e1, strs_chs h2]
    rfl
theorem chs_dats : ∀ (cs : List Nat) (c : Cn) (H : Hp), Dats c H (cs.map fun k => D.str [k]) ((cs.map mkC).map V.str)
  | [], _, _ => rfl
  | k :: cs, c, H => ⟨.str (mkC k), _, rfl, ⟨rfl, by show 1 ≤ lim; decide⟩, chs_dats cs c H⟩
end F
end

section
set_option Elab.async false
set_option linter.all false
set_option autoImplicit false
set_option maxRecDepth 100000
set_option maxHeartbeats 2000000
/-! F layer: a lambda that has parameters and captures names, handed to a def: what it promises, how it is called there. -/
namespace F
open PySem PySem.Spec PyProof.Rows L2
structure LOkC (P : Program) (w : World) (K : PySem.W.Frag) (mg : Str → Option Value) (base : Heap) (CX : CXT) (k : Nat) (F : LF) (cl : List (Str × Addr)) (fr : List Str) (n : Nat) (sp : List (Option V) → Sp) : Prop where
  len : ∀ ws vs H Q E, sp ws vs H Q E → vs.length = n
  run : ∀ (A : Around) (outer : List PySem.Env) (s : Shared) (H : Hp) (f : Addr) (us : List Value) (vs : List V) (ws : List (Option V)) (Q : VK) (E : XK), Room k A → A.guards = some [] → Env0 P w K mg base A outer s H → H f = some (FnLc f F cl) → H F.c = some (LamX.CodeO F.c F.qual) →
    NdefX.CellsAt cl fr ws s.heap H → Vals vs us → sp ws vs H Q E → codeAny (model P w) A (.call (.ref f) ⟨us, []⟩) (L2.CR CX outer P w H s Q E) s
section
variable {CX : CXT} {P : Program} {w : World} {K : PySem.W.Frag} {mg : Str → Option Value} {base : Heap} {N ps fr : List Str} {F : LF} {cl : List (Str × Addr)} {k j n n2 : Nat} {sp : List (Option V) → Sp}
end
section
variable {X : Cx} {CX : CXT} {i j k n : Nat} {x : Str} {f : Addr} {LM : LF} {cl : List (Str × Addr)} {fr : List Str} {ws : List (Option V)} {sp : List (Option V) → Sp} {E : St → XK} {t : TA} {e : Expr} {es : List Expr} {p pos : Pos}
end
/-! ### as data: kind 12, with what it captured -/
end F
end

section
set_option Elab.async false
set_option linter.all false
set_option autoImplicit false
set_option maxRecDepth 100000
set_option maxHeartbeats 2000000
/-! F layer: g(things, lambda x: e), the names of e captured. -/
namespace F
open PySem PySem.Spec PyProof.Rows L2
section
variable {t : Tb} {f : Addr} {Lf : LF} {cl : List (Str × Addr)} {ds : List D} {Hc : Hp}
end
section
variable {X : Cx} {pins : List (Addr × Obj)} {σ : L2.St} {H : Hp} {s : Shared}
end
/-! ### the def that gets it; the call -/
end F
end

section
set_option Elab.async false
set_option linter.all false
set_option autoImplicit false
set_option maxRecDepth 100000
set_option maxHeartbeats 2000000
/-! F layer: a dict of ints that a call returns, locked at once. -/
namespace F
open PySem PySem.Spec PyProof.Rows L2
section
variable {X : Cx} {t : Tb} {W : WX} {a e : Expr} {ma : M R}
end
end F
end

section
set_option Elab.async false
set_option linter.all false
set_option autoImplicit false
set_option maxRecDepth 100000
set_option maxHeartbeats 4000000
/-! F layer: set(xs) of a list, whatever its members: told by what one member more does to the set (Fills). -/
namespace L2
open PySem PySem.Spec PyProof.Rows
/-- a set without members -/
abbrev set0 (w : World) : Obj := { cls := .type "set", dict := none, data := .set #[] 0 (.fresh 0 0 (!w.params.followText "set-order")) }
/-- Pr i: what holds of the set at S when i members were put in -/
structure Fills (P : Program) (w : World) (S : Addr) (n : Nat) (item : Nat → Value → Prop) (Pr : Nat → Heap → Prop) : Prop where
  new : ∀ h, h.get? S = some (set0 w) → Pr 0 h
  same : ∀ i h h', Pr i h → (∀ o, h.get? S = some o → h'.get? S = some o) → Pr i h'
  put : ∀ (A : Around) i v (s : Shared) (Q : Bool → Shared → Prop) (E : Value → Shared → Prop), i < n → item i v → Pr i s.heap →
    (∀ b h' tk, Heap.SameBut S s.heap h' → s.toks ≤ tk → Pr (i + 1) h' → Q b { s with heap := h', toks := tk }) → wpAny (model P w) A (setAdd S v) Q E s
section
variable {P : Program} {w : World} {A : Around} {E : Value → Shared → Prop}
theorem fills_loop {S I : Addr} {fp wr : List Addr} {G : Array GenState → Array GenState → Prop} {n : Nat} {item : Nat → Value → Prop} {St : Nat → Shared → Prop} {Pr : Nat → Heap → Prop}
    (W : WalksS P w A.in1 I fp wr G n item St) (U : Fills P w S n item Pr) (out : S ∉ fp) : ∀ (left : Nat) (i : Nat) (s : Shared) (R : Result → Shared → Prop), i + left = n → St i s → Pr i s.heap →
      (∀ s', Moved (S :: wr) G s s' → Pr n s'.heap → R (.ok (.ret .none)) s') → codeAny (model P w) A (.builtin "set.update.loop" ⟨[.ref S, .ref I], []⟩) R s := by
  have wide : ∀ {s s' : Shared}, Moved wr G s s' → Moved (S :: wr) G s s' := fun m => ⟨fun b o hb => m.heap b o fun z => hb (List.mem_cons_of_mem S z), m.gens, m.drawn, m.os, m.toks⟩
  have held : ∀ {i} {s s' : Shared}, Moved wr G s s' → Pr i s.heap → Pr i s'.heap := fun m p => U.same _ _ _ p fun o => m.heap S o fun z => out (W.sub S z)
  intro left
  induction left with
  | zero =>
    intro i s R hi st p fin
    subst hi
    refine codeAny_builtin F.entry_set_update_loop ?_
    rw [Around.under_plainId F.plain_set_update_loop]
    refine wpAny_bind (W.done s _ _ st fun s1 m => wpAny_pure ?_)
    exact fin s1 (wide m) (held m p)
  | succ left ih =>
    intro i s R hi st p fin
    have lt : i < n := by omega
    refine codeAny_builtin F.entry_set_update_loop ?_
    rw [Around.under_plainId F.plain_set_update_loop]
    refine wpAny_bind (W.item i s _ _ lt st fun v s1 pv st1 m => ?_)
    refine wpAny_bind (wpAny_holding (U.put _ i v s1 _ _ lt pv (held m p) fun b h2 tk same ht p2 => ?_))
    have away : ∀ b ∈ fp, b ≠ S := fun b hb e => out (e ▸ hb)
    refine wpAny_pure ⟨plainId_quiet F.plain_set_update_loop _, ih (i + 1) _ R (by omega) (W.frame _ s1 h2 tk st1 ht fun b hb o e => (same.2 b (away b hb)).trans e) p2 fun s3 m3 p3 => fin s3 ⟨fun b o hb e => ?_, W.gtrans _ _ _ m.gens m3.gens, m3.drawn.trans m.drawn, m3.os.trans m.os, Nat.le_trans m.toks (Nat.le_trans ht m3.toks)⟩ p3⟩
    have q := m.heap b o (fun z => hb (List.mem_cons_of_mem S z)) e
    exact m3.heap b o hb ((same.2 b fun z => hb (z ▸ List.mem_cons_self)).trans q)

theorem wants_to {c : Code} {s : Shared} {Q : Value → Shared → Prop} {R : Result → Shared → Prop} (h : codeAny (model P w) A c (wants Q E) s) (ok : ∀ r s', Q r s' → R (.ok (.ret r)) s') (er : ∀ e s', E e s' → R (.error e) s') : codeAny (model P w) A c R s :=
  codeAny_mono h fun r s' q => match r, q with
    | .error e, q => er e s' q
    | .ok (.ret v), q => ok v s' q
/-- what set(v) does ahead of __init__, and behind it -/
theorem set_shell {v : Value} {s : Shared} {Q : Value → Shared → Prop}
    (hI : codeAny (model P w) A.in1 (.call (.builtin "set.__init__") ⟨[.ref s.heap.objs.size, v], []⟩) (wants (fun r s2 => r = .none ∧ Q (.ref s.heap.objs.size) s2) E) { s with heap := s.heap.push (set0 w) }) :
    wpAny (model P w) A (call (.type "set") [v]) Q E s := by
  have ⟨c, tl, mro⟩ := F.called_set.mro
  have made := F.called_set.made
  have sub := F.called_set.sub
  have notType := F.called_set.notType
  have canCreate := F.called_set.canCreate
  have ck := F.typeCall_set_1 v
  have lk := F.called_set.init.lookup
  have bd := F.called_set.init.bind (.ref s.heap.objs.size)
  apply wpAny_call
  apply codeAny_of_tree
  show wpAny _ _ (callAny (.type "set") _) _ _ _
  apply wpAny_pure
  refine ⟨Code.quiet_builtin _ (by decide +kernel), codeAny_builtin F.entry_type_call ?_⟩
  rw [Around.under_plain (weight_type_call_type "set" [v] []) rfl]
  repeat (any_goals (first | assumption | wp_step))
  refine wants_to (code_set_led1 v (E := E) (Q₁ := fun r s1 => r = .ref s.heap.objs.size ∧ s1 = { s with heap := s.heap.push (set0 w) }) ⟨rfl, rfl⟩) (fun r s1 q => ?_) fun e s1 q => q
  have ⟨e1, e2⟩ := q
  subst e1
  subst e2
  have isSet : Shared.TypeIs { s with heap := s.heap.push (set0 w) } (.ref s.heap.objs.size) "set" := ⟨_, Heap.get?_push_size _ rfl, rfl⟩
  repeat (any_goals (first | assumption | wp_step))
  refine wants_to hI (fun r s2 z => ?_) fun e s2 z => z
  have ⟨e3, done⟩ := z
  subst e3
  repeat (any_goals (first | assumption | wp_step))
set_option maxHeartbeats 3200000 in
/-- set(xs), xs a list -/
theorem call_set_fills {l : Addr} {items : Array Value} {s : Shared} {Q : Value → Shared → Prop} {Pr : Nat → Heap → Prop} (hh : A.handled = none) (hl : s.heap.IsList l items)
    (U : Fills P w s.heap.objs.size items.size (fun i v => items[i]? = some v) Pr)
    (h : ∀ (h' : Heap) (tk : Nat), Pr items.size h' → (∀ b o, s.heap.get? b = some o → h'.get? b = some o) → Q (.ref s.heap.objs.size) { s with heap := h', toks := tk }) :
    wpAny (model P w) A (call (.type "set") [.ref l]) Q E s := by
  have lt : l < s.heap.objs.size := hl.elim fun o e => Heap.lt_size e.1
  have old : ∀ (o o' : Obj) b u, s.heap.get? b = some u → ((s.heap.push o).push o').get? b = some u := fun _ _ _ _ e => Heap.get?_push_of_some _ (Heap.get?_push_of_some _ e)
  have isList := hl.push (set0 w)
  have isSet : Shared.TypeIs { s with heap := s.heap.push (set0 w) } (.ref s.heap.objs.size) "set" := ⟨_, Heap.get?_push_size _ rfl, rfl⟩
  refine set_shell (codeAny_call_builtin F.called_set.init.plain F.entry_set_init (check_set_init_1 isSet ?_))
  have no1 := F.sub_list_set
  have no2 := F.sub_list_frozenset
  have no3 : (Value.type "list" == Value.type "dict") = false := rfl
  unfold Builtin.«set.__init__» noKeywords Builtin.Frozenset.updateFrom
  generalize walker : pyIter = PI
  obtain ⟨⟨cls, dict, data, slots⟩, hget, hcls, vers, hdata⟩ := id isList
  change cls = _ at hcls
  change data = _ at hdata
  subst hcls hdata
  wp_walk
  subst walker
  refine wpAny_pyIter_list isList (wpAny_bind (wpAny_runValue ?_))
  have sz : (s.heap.push (set0 w)).objs.size = s.heap.objs.size + 1 := Heap.size_push ..
  have apart : s.heap.objs.size ∉ [(s.heap.push (set0 w)).objs.size, l] := fun z => by
    rw [sz] at z
    rcases List.mem_cons.mp z with e | z
    · exact absurd e (Nat.ne_of_lt (Nat.lt_succ_self _))
    · exact absurd (List.mem_singleton.mp z) (Nat.ne_of_gt lt)
  have walk := (Walks.list (prog := P) (w := w) (A := A.in1.in1.in1) (by simp [hh]) (s.heap.push (set0 w)).objs.size l (fun e => Nat.ne_of_lt (Nat.lt_succ_of_lt lt) (e.trans sz)) items).toS
  have hS := Heap.get?_push_size s.heap (o := set0 w) rfl
  refine fills_loop walk U apart items.size 0 _ _ (Nat.zero_add _) ⟨⟨_, Heap.get?_push_size _ rfl, rfl, rfl⟩, isList.push _⟩ (U.new _ (Heap.get?_push_of_some _ hS)) fun s3 m p => ?_
  obtain ⟨h3, g3, d3, t3, o3⟩ := s3
  obtain rfl : g3 = s.gens := m.gens
  obtain rfl : d3 = s.drawn := m.drawn
  obtain rfl : o3 = s.os := m.os
  refine wpAny_pure (wpAny_pure ⟨rfl, h h3 t3 p fun b o e => ?_⟩)
  have lb := Heap.lt_size e
  refine m.heap b o (fun z => ?_) (old _ _ b o e)
  rcases List.mem_cons.mp z with e1 | z
  · exact absurd e1 (Nat.ne_of_lt lb)
  · exact absurd ((List.mem_singleton.mp z).trans sz) (Nat.ne_of_lt (Nat.lt_succ_of_lt lb))
/-- ints put in: the distinct ones among the first i -/
theorem fills_ints {S : Addr} {items : Array Value} {ns : List Int} (hi : IntsAre items.toList ns) (hb : ns.length + 1 < scanBound) :
    Fills P w S items.size (fun i v => items[i]? = some v) fun i h => ∃ c, c ≤ i ∧ SetR w h S (fun j => decide (j ∈ ns.take i)) c where
  new := fun h e => ⟨0, Nat.le_refl 0, setR_new_at e⟩
  same := fun i h h' ⟨c, le, R⟩ k => ⟨c, le, R.at k⟩
  put := fun A i v s Q E lt iv ⟨c, le, R⟩ k => by
    have sz : items.size = ns.length := (Array.length_toList (xs := items)).symm.trans (IntsAre.length hi)
    have ⟨t, e⟩ := IntsAre.int_at hi i v (by rw [Array.getElem?_toList]; exact iv)
    have at_i : ns[i]? = some (ns.getD i 0) := by rw [List.getD_eq_getElem?_getD, List.getElem?_eq_getElem (sz ▸ lt)]; rfl
    generalize ns.getD i 0 = z at e at_i
    subst e
    unfold setAdd
    refine wpAny_holding (wpAny_bind ((intKind P w).pyHash (k := z) (intKind_is _ _ _ _) ?_))
    refine setR_add_hashed (s := { s with toks := s.toks + 1 }) R (by omega) fun h' sb R' => k _ h' _ sb (Nat.le_succ _) ⟨_, ?_, R'.congr fun j => ?_⟩
    · split <;> omega
    · rw [List.take_add_one, at_i]
      simp [List.mem_append]
end
end L2
namespace F
open PySem PySem.Spec PyProof.Rows L2
section
variable {X : Cx} {a : Expr} {ta : TE} {f t : Str} {id T : String} {p p2 q pos : Pos} {r : V → Hp → VK → Prop}
/-- f(T(e)), T a built-in type and f a built-in function: both calls at once, so that what T makes need not be ours -/
theorem pe_two (hr : ∀ (pins : List (Addr × Obj)) (s : Shared) (σ : L2.St) (H : Hp) (x : V) (v : Value) (Q : VK), Inv X pins σ H s → RelV x v → r x H Q →
      wpAny (model X.prog X.w) X.A (call (.type T) [v]) (fun u s1 => wpAny (model X.prog X.w) X.A (call (.builtin id) [u]) (EP X pins σ Q) X.xe s1) X.xe s)
    (hf : Gl X f) (mf : X.mg f = none) (vf : bootBuiltins f = some (.builtin id)) (ht : Gl X t) (mt : X.mg t = none) (vt : bootBuiltins t = some (.type T)) (ha : PE X a ta) (one : starEach [a] X.env = (false, eval a X.env) :: starEach [] X.env)
    (f1 : f ≠ "__name__" := by decide) (f2 : (f == ("__debug__" : Str)) = false := by decide) (t1 : t ≠ "__name__" := by decide) (t2 : (t == ("__debug__" : Str)) = false := by decide) :
    PE X (.Call (.Name f p) [.Call (.Name t p2) [a] [] q] [] pos) (fun σ H Q => ta σ H fun x H1 => r x H1 Q) := by
  refine ⟨fun pins s σ H Q I h => Call_ (ld_blt I hf mf vf (callWith_builtin1 (args_cons (Call_ (ld_blt I ht mt vt (callWith_type1 (args_cons ?_ one) one rfl) t1 t2)) rfl) rfl rfl) f1 f2)⟩
  refine thn (ha.run pins s σ H _ I h) fun v s1 ⟨x, H1, I1, rx, q1⟩ => args_nil ?_
  exact thn (hr pins s1 σ H1 x v Q I1 rx q1) fun u s2 h2 => args_nil h2
end
end F
end

section
set_option Elab.async false
set_option linter.all false
set_option autoImplicit false
set_option maxRecDepth 100000
set_option maxHeartbeats 2000000
/-! F layer: a, b, c = a list. -/
namespace F
open PySem PySem.Spec PyProof.Rows L2
section
variable {X : Cx} {t : Tb} {W : WX} {P : Nat → Bool} {a : Expr} {ma : M R} {pos tpos : Pos}
end
end F
end

section
set_option Elab.async false
set_option linter.all false
set_option autoImplicit false
set_option maxRecDepth 100000
set_option maxHeartbeats 4000000
/-! F layer: generator defs that raise before they hand out anything. -/
namespace F
open PySem PySem.Spec PyProof.Rows L2
/-- a generator that has not begun, and whose first request raises -/
def GMadeR (P : Program) (w : World) (k : Nat) (outer : List PySem.Env) (H : Hp) (s : Shared) (E : XK) (u : Value) (s' : Shared) : Prop :=
  ∃ (a : Addr) (g : Nat) (c : Code), u = .ref a ∧ s.heap.objs.size ≤ a ∧ a < s'.heap.objs.size ∧ s'.heap.IsGen a g ∧ s'.gens[g]? = some (.fresh c) ∧ s'.os = s.os ∧ AllBare s'.gens ∧ s'.heap.NoLimit ∧ (∀ b o, s.heap.get? b = some o → s'.heap.get? b = some o) ∧
    ∀ (A : Around) (s2 : Shared), Room k A → A.frames = some outer → (∀ b o, s'.heap.get? b = some o → s2.heap.get? b = some o) → s2.os = s.os → AllBare s2.gens →
      Seg (model P w) A (fun _ _ r s1 => ∃ e, r = .error e ∧ L2.CX P w outer H s E e s1 ∧ s1.heap.IsGen a g) (fun _ _ _ _ _ => False) 0 s2 c ((model P w).den c) [] s2
abbrev SpR := List V → Hp → XK → Prop
structure GFnR (P : Program) (w : World) (K : PySem.W.Frag) (mg : Str → Option Value) (base : Heap) (k : Nat) (f : Addr) (fd : FuncData) (ps : List Str) (sp : SpR) : Prop where
  len : ∀ vs H E, sp vs H E → vs.length = ps.length
  run : ∀ (A : Around) (outer : List PySem.Env) (s : Shared) (H : Hp) (args : Args) (us : List Value) (vs : List V) (E : XK), Room k A → Env0 P w K mg base A outer s H → BindsTo s fd args (ps.zip us) → Vals vs us → sp vs H E →
    codeAny (model P w) A (.call (.ref f) args) (fun r s' => match r with | .ok (.ret u) => GMadeR P w k outer H s E u s' | _ => False) s
section
variable {P : Program} {w : World} {K : PySem.W.Frag} {mg : Str → Option Value} {base : Heap} {N : List Str} {qual : Str} {scope : Scope} {f : Addr} {cdv : Value} {A : Around} {outer : List PySem.Env} {s s2 : Shared} {H : Hp} {E : XK} {body : List Stmt} {t : L2.TS} {σ : L2.St} {a g : Nat} {o : Obj}
end
end F
end

section
set_option Elab.async false
set_option linter.all false
set_option autoImplicit false
set_option maxRecDepth 100000
set_option maxHeartbeats 2000000
/-! F layer: a generator method whose first statement raises. -/
namespace F
open PySem PySem.Spec PyProof.Rows L2
end F
end

section
set_option Elab.async false
set_option linter.all false
set_option autoImplicit false
set_option maxRecDepth 100000
set_option maxHeartbeats 2000000
/-! F layer: for over a generator method whose first request raises; slices of tuples; rstrip. -/
namespace F
open PySem PySem.Spec PyProof.Rows L2
/-! ### slices of tuples -/
def slT : D → Option Int → Option Int → Option D
  | .tup l, lo, hi => some (.tup (cut l lo hi))
  | _, _, _ => none
theorem cutV_all {xs : List V} {lo hi : Option Int} (h : HT.sIx xs.length 0 lo = 0 ∧ HT.sIx xs.length xs.length hi = xs.length) : cutV xs lo hi = xs := by
  unfold cutV
  rw [h.1, h.2, List.drop_zero, Nat.sub_zero, List.take_length]
theorem Kp.peekT {c : Cn} {H0 Fr H : Hp} {σ : St} {e : Env} {v : V} {r : R} {as : Nat → List Addr} (rp : Rp c H0 Fr H σ e as) (k : Kp c H0 σ v r) {l : List D} (h : F.peek r e = some (.tup l)) : Dat c H0 (.tup l) v := by
  cases r with
  | d x =>
    cases h
    exact k
  | sl i =>
    have h : (slot e i).bind O.pk = some (.tup l) := h
    cases q : slot e i with
    | none => rw [q] at h; cases h
    | some o =>
      rw [q] at h
      obtain ⟨w, h1, h2⟩ := rp.own i o q
      have k : σ[i]? = some (some v) := k
      rw [h1] at k
      cases k
      cases o with
      | sh d => cases h; exact h2.2
      | fl l => cases h
      | fd l => cases h
      | fo k l => cases h
  | ow o => exact k.elim
section
variable {X : Cx} {t : Tb} {W : WX} {a : Expr} {ma : M R} {lo hi : Option Expr} {ml mh : Option (M R)} {pos p2 : Pos}
theorem se_slT (ha : SE X t W a ma) (hl : SPt X t W lo ml) (hh : SPt X t W hi mh) : SE X t W (.Subscript a (.Slice lo hi none p2) pos) (mSl slT ma ml mh) := by
  refine PE.imp (pe_slice sl_tupA ha hl hh) fun σ H Q ⟨e, H0, Fr, as, rp, po⟩ => ?_
  refine ⟨e, H0, Fr, as, rp, po.bind fun ra e1 v H1 H' s rr po => ?_⟩
  obtain ⟨H2, as, s2, rp, kp⟩ := RpR.keep rr
  refine ⟨e1, H2, Fr, as, rp, (po.mono s2).bind fun l e2 l' H3 H'' s3 ⟨e4, as, rp⟩ po => ?_⟩
  subst e4
  refine ⟨e2, H3, Fr, as, rp, po.bind fun h' e3 h2 H4 H5 s4 ⟨e4, as, rp⟩ po => ?_⟩
  subst e4
  obtain ⟨dx, q1, po⟩ := po.ofO
  obtain ⟨dz, q2, po⟩ := po.ofO
  have o := po.out rp
  have kp := kp.mono (s3.trans s4)
  match dx, q1, q2 with
  | .tup m, q1, q2 =>
    cases q2
    obtain ⟨hl, a, vs, rfl, g2, g3⟩ := kp.peekT rp q1
    refine ⟨a, vs, rfl, SqT.same rp.sub g2, fun hw => ?_, fun _ p hp => ?_⟩
    · refine o.1 (.ref a) ⟨Nat.le_trans (cut_len m _ _) hl, a, vs, rfl, g2, ?_⟩
      have := cutV_all hw
      rw [← this]
      exact g3.cut _ _
    · have hp0 : H4 p = none := by
        cases q : H4 p with
        | none => rfl
        | some z => rw [rp.sub _ _ q] at hp; cases hp
      exact o.2 p (.tup (cutV vs _ _)) hp ⟨Nat.le_trans (cut_len m _ _) hl, p, _, rfl, .inl (.inl upd_same), Dats.mono (same_upd hp0) _ _ (g3.cut _ _)⟩
end
/-! ### text.rstrip(signs) -/
/-! ### for over a generator method that raises at once -/
theorem Po.weak {α β : Type} {t : Tb} {c : Cn} {W W' : WX} {RR : Hp → Hp → Env → β → α → Prop} {Q : β → Hp → Prop} {Fr H0 : Hp} {σ : St} {x : Rs α} (hw : ∀ cls d σ H, W' cls d σ H → W cls d σ H) (h : Po t c W' Fr σ H0 RR Q x) : Po t c W Fr σ H0 RR Q x := by
  cases x with
  | ok a e => exact h
  | ex k p e => exact fun H1 H' as cls dx s rp xa => hw _ _ _ _ (h H1 H' as cls dx s rp xa)
  | bad => exact h
theorem tG.weak {α β : Type} {t : Tb} {c : Cn} {W W' : WX} {RR : Hp → St → Hp → Hp → Env → β → α → Prop} {m : M α} {σ : St} {H : Hp} {Q : β → Hp → Prop} (hw : ∀ cls d σ H, W' cls d σ H → W cls d σ H) (h : tG t c W' RR m σ H Q) : tG t c W RR m σ H Q :=
  let ⟨e, H0, Fr, as, rp, po⟩ := h
  ⟨e, H0, Fr, as, rp, po.weak hw⟩
section
variable {X : Cx} {t : Tb} {W : WX} {pr : Nat → Bool} {a o target : Expr} {es : List Expr} {body : List Stmt} {ms : List (M R)} {mo : M R} {pos pos' apos : Pos} {m : Str} {k kk k2 n j : Nat} {m1 : MS}
end
end F
end

section
set_option Elab.async false
set_option linter.all false
set_option autoImplicit false
set_option maxRecDepth 100000
set_option maxHeartbeats 2000000
/-! F layer: tuple + tuple. -/
namespace F
open PySem PySem.Spec PyProof.Rows L2
section
variable {X : Cx} {t : Tb} {W : WX} {a b : Expr} {ma mb : M R} {pos : Pos}
end
end F
end

section
set_option Elab.async false
set_option linter.all false
set_option autoImplicit false
set_option maxRecDepth 100000
set_option maxHeartbeats 4000000
/-! F layer: sorted(set(xs)), xs a list of ints or of texts of one sign. What one text more does to a set (Fills of IQ). -/
namespace L2
open PySem PySem.Spec PyProof.Rows
open Froz (SD sObj TxOk tailTx addTx add_x add_ok)
/-- a set of texts -/
def SetT (P : Program) (w : World) (h : Heap) (a : Addr) (S : Str → Bool) (n : Nat) : Prop :=
  ∃ (D : SD) (l : List Str), h.get? a = some (sObj "set" D) ∧ TxOk P w D l ∧ Ris D.2.2.place.toList ∧ (w.params.followText "set-order" = true ∨ D.2.2.led = true) ∧ l.Nodup ∧ (∀ k, S k = true ↔ k ∈ l) ∧ l.length = n
section
variable {P : Program} {w : World} {h h' : Heap} {a : Addr} {S : Str → Bool} {n : Nat}
theorem SetT.at (R : SetT P w h a S n) (k : ∀ o, h.get? a = some o → h'.get? a = some o) : SetT P w h' a S n := by
  obtain ⟨D, l, ho, r⟩ := R
  exact ⟨D, l, k _ ho, r⟩
theorem SetT.congr {S' : Str → Bool} (R : SetT P w h a S n) (e : ∀ k, S' k = S k) : SetT P w h a S' n := by
  obtain ⟨D, l, ho, f, r, d, nd, m, z⟩ := R
  exact ⟨D, l, ho, f, r, d, nd, fun k => by rw [e k]; exact m k, z⟩
theorem setT_new_at {ns : List Str} (ho : h.get? a = some { cls := .type "set", dict := none, data := .set #[] 0 (.fresh 0 0 (!w.params.followText "set-order")) }) : SetT P w h a (fun j => decide (j ∈ ns.take 0)) 0 :=
  ⟨(#[], 0, _), [], ho, TxOk.nil (by rfl), List.Pairwise.nil, by
    show _ ∨ (!w.params.followText "set-order") = true
    cases w.params.followText "set-order"
    · exact .inr rfl
    · exact .inl rfl, List.nodup_nil, fun k => by simp, rfl⟩
theorem tailTx_ris {ep : Nat} {es : Array (Int × Value)} {t : SetTable} {b : Bool} (r : Ris t.place.toList) : Ris (tailTx ep es t b).2.2.place.toList := by
  unfold tailTx
  split
  · exact relayAll_ris _ _ _
  · exact r
theorem tailTx_led {ep : Nat} {es : Array (Int × Value)} {t : SetTable} {b : Bool} : (tailTx ep es t b).2.2.led = t.led := by
  unfold tailTx
  split
  · exact relayAll_led _ _ _
  · rfl
theorem addTx_ris {hs : Int} {v : Value} {D : SD} (r : Ris D.2.2.place.toList) : Ris (addTx hs v D).2.2.place.toList := by
  unfold addTx
  refine tailTx_ris ?_
  have := layNew_ris D.2.2 D.1 hs v r
  split
  · exact this
  · exact this
theorem addTx_led {hs : Int} {v : Value} {D : SD} : (addTx hs v D).2.2.led = D.2.2.led := by
  unfold addTx
  rw [tailTx_led]
  have := layNew_led D.2.2 D.1 hs v
  split
  · exact this
  · exact this
end
section
variable {P : Program} {w : World} {A : Around} {E : Value → Shared → Prop} {s : Shared} {a : Addr} {S : Str → Bool} {n : Nat}
theorem setT_add_hashed {k : Str} {tk : Tok} {Q : Bool → Shared → Prop} (R : SetT P w s.heap a S n) (room : n + 1 < scanBound)
    (hQ : ∀ h', Heap.SameBut a s.heap h' → SetT P w h' a (fun j => S j || decide (j = k)) (if S k = true then n else n + 1) → Q (!S k) { s with heap := h' }) :
    wpAny (model P w) A (setAddHashed a (.str k tk) ((strKind P w).hash k)) Q E s := by
  obtain ⟨D, l, ho, F, r, d, nd, hm, hn⟩ := R
  by_cases hk : k ∈ l
  · have hSk : S k = true := (hm k).mpr hk
    obtain ⟨es, ep, t⟩ := D
    have hd : (sObj "set" (es, ep, t)).data = .set es ep t := rfl
    have hf : t.fits es.size = true := F.fit
    have hel : ElemsOf (strKind P w) es.toList := F.el
    have hsz : es.size = l.length := F.sz
    have hb0 : es.size < scanBound := by omega
    have hkey : (strKind P w).is k (.str k tk) = true := Froz.is_str k tk
    unfold setAddHashed setAddHashedIn
    refine wpAny_holding (wpAny_bind (wpAny_setState_of ho hd hf ?_))
    dsimp only
    rw [byScan_of rfl hb0 hel]
    simp only [↓reduceIte]
    unfold setAddByScan
    refine wpAny_bind ?_
    refine wpAny_bind (wpAny_rule ?_)
    refine wpAny_bind (wpAny_setScan_of (knd := strKind P w) (k := k) hkey ho hd hf hel ?_)
    cases hfi : List.findIdx? (fun e => (strKind P w).is k e.2) es.toList with
    | none =>
      obtain ⟨e, he, q⟩ := (F.mem k).mp hk
      have c := List.findIdx?_eq_none_iff.mp hfi e he
      rw [q] at c
      cases c
    | some j =>
      dsimp only
      refine wpAny_pure (wpAny_pure ?_)
      have q := hQ s.heap (Heap.SameBut.refl a s.heap) ⟨(es, ep, t), l, ho, F, r, d, nd, fun i => by
        rw [Bool.or_eq_true, decide_eq_true_eq, hm i]
        exact ⟨fun z => z.elim id (fun e => e ▸ hk), .inl⟩, by rw [if_pos hSk]; exact hn⟩
      rw [hSk] at q
      exact q
  · have hSk : S k = false := by
      cases q : S k with
      | false => rfl
      | true => exact absurd ((hm k).mp q) hk
    refine add_x ho F hk (by omega) ?_
    have sb : Heap.SameBut a s.heap (s.heap.update a (fun _ => sObj "set" (addTx (hashStr w k) (.str k tk) D))) := Heap.SameBut.update _ _ _
    have q := hQ _ sb ⟨_, k :: l, Froz.get_upd _ ho rfl, add_ok tk F, addTx_ris r, d.imp id fun z => by rw [addTx_led]; exact z, List.nodup_cons.mpr ⟨hk, nd⟩, fun i => by
      rw [Bool.or_eq_true, decide_eq_true_eq, hm i, List.mem_cons]
      exact Or.comm, by rw [hSk, if_neg Bool.false_ne_true, List.length_cons, hn]⟩
    rw [hSk] at q
    exact q
/-- texts put in: the distinct ones among the first i -/
theorem fills_txts {S : Addr} {items : Array Value} {ns : List Str} (hi : PyProof.Rows.StrsAre items.toList ns) (hb : ns.length + 1 < scanBound) :
    Fills P w S items.size (fun i v => items[i]? = some v) fun i h => ∃ c, c ≤ i ∧ SetT P w h S (fun j => decide (j ∈ ns.take i)) c where
  new := fun h e => ⟨0, Nat.le_refl 0, setT_new_at e⟩
  same := fun i h h' ⟨c, le, R⟩ k => ⟨c, le, R.at k⟩
  put := fun A i v s Q E lt iv ⟨c, le, R⟩ k => by
    have sz : items.size = ns.length := (Array.length_toList (xs := items)).symm.trans (PyProof.Rows.StrsAre.len_eq hi)
    have lt' : i < ns.length := sz ▸ lt
    have ⟨t, e⟩ := SS.strs_at hi i v (by rw [Array.getElem?_toList]; exact iv)
    have at_i : ns[i]? = some ns[i] := List.getElem?_eq_getElem lt'
    have e : v = .str ns[i] t := by rw [e, List.getD_eq_getElem?_getD, at_i]; rfl
    generalize ns[i] = z at e at_i
    subst e
    unfold setAdd
    refine wpAny_holding (wpAny_bind ((strKind P w).pyHash (k := z) (Froz.is_str _ _) ?_))
    refine setT_add_hashed (s := { s with toks := s.toks + 1 }) R (by omega) fun h' sb R' => k _ h' _ sb (Nat.le_succ _) ⟨_, ?_, R'.congr fun j => ?_⟩
    · split <;> omega
    · rw [List.take_add_one, at_i]
      simp [List.mem_append]
end
end L2
end

section
set_option Elab.async false
set_option linter.all false
set_option autoImplicit false
set_option maxRecDepth 100000
set_option maxHeartbeats 4000000
/-! F layer: sorted(set(xs)), the rules. -/
namespace L2
open PySem PySem.Spec PyProof.Rows
open Froz (SD sObj TxOk)
theorem perm_cov {α : Type} [DecidableEq α] : ∀ (l T : List α), l.Nodup → (∀ k ∈ l, k ∈ T) → T.length ≤ l.length → T.Perm l
  | [], T, _, _, h => by rw [List.length_eq_zero_iff.mp (Nat.le_zero.mp h)]
  | k :: l, T, nd, m, h => by
    obtain ⟨h1, h2⟩ := List.nodup_cons.mp nd
    have hk := m k (List.mem_cons_self ..)
    have ih := perm_cov l (T.erase k) h2 (fun j hj => (List.mem_erase_of_ne (show j ≠ k from fun e => h1 (by rw [← e]; exact hj))).mpr (m j (List.mem_cons_of_mem _ hj))) (by
      rw [List.length_erase_of_mem hk]
      rw [List.length_cons] at h
      omega)
    exact (List.perm_cons_erase hk).trans (ih.cons k)
section
variable {P : Program} {w : World} {A : Around} {E : Value → Shared → Prop} {s : Shared} {a : Addr}
theorem strs_of_all : ∀ vs : List Value, (∀ v ∈ vs, ∃ k t, v = Value.str k t) → PyProof.Rows.StrsAre vs (vs.map strOf)
  | [], _ => .nil
  | v :: vs, h => by
    obtain ⟨k, t, rfl⟩ := h v (List.mem_cons_self ..)
    exact .cons k t (strs_of_all vs fun v hv => h v (List.mem_cons_of_mem _ hv))
/-- sorted(v), whatever v's items are, told by what is collected (Got) and by the kind of its keys -/
theorem sorted_got {κ : KeyKind} (hO : κ.OneLt) {v : Value} {Q : Value → Shared → Prop} {Got : Shared → List Value → Prop}
    (col : ∀ (E' : Value → Shared → Prop) (Q' : List Value → Shared → Prop), (∀ s1 vs, Got s1 vs → Q' vs s1) → wpAny (model P w) A.in1 (collect v) Q' E' s)
    (keys : ∀ s1 vs, Got s1 vs → vs.length < 64 ∧ KeysOf κ (pairsOf vs) ∧ ∀ v₁ v₂ rest, vs = v₁ :: v₂ :: rest → keyKind' (v₁ :: v₂ :: rest).toArray = pure oneType')
    (fin : ∀ s1 vs st', Got s1 vs → (arrOf st').Perm (pairsOf vs) → SortedToK κ (arrOf st') (pairsOf vs).size →
      Q (.ref s1.heap.objs.size) { s1 with heap := sortedHeap (s1.heap.push (seqObj "list" vs.toArray 0)) s1.heap.objs.size vs ((arrOf st').map (·.2)) }) :
    wpAny (model P w) A (call (.builtin "sorted") [v]) Q E s := by
  apply Calls.call_function_entry kind_sorted plain_sorted entry_sorted (args_sorted1 _)
  unfold Builtin.«sorted»
  apply wpAny_bind (m := checkCount "sorted" 1 1 _)
  apply wpAny_pure
  apply wpAny_bind
  refine col _ _ fun s1 vs got => ?_
  have ⟨few, k0, kk⟩ := keys s1 vs got
  have here : (s1.heap.push (seqObj "list" vs.toArray 0)).get? s1.heap.objs.size = some (seqObj "list" vs.toArray 0) := Heap.get?_push_size _ rfl
  refine wpAny_bind (wpAny_newList (wpAny_bind (wpAny_holding ?_)) (by rw [sizeLine_eq]; omega))
  refine wpAny_call_entry slot_list_sort ⟨_, here, rfl⟩ entry_list_sort (list_sort_treeK hO here k0 kk few fun st' p1 p2 => ⟨_, rfl, ?_⟩) (args_list_sort _)
  exact wpAny_pure ⟨_, rfl, fin s1 vs st' got p1 p2⟩
/-- the heap behind it keeps what stood -/
theorem sorted_keeps {h : Heap} {vs : List Value} {out : Array Value} {b : Addr} {o : Obj} (e : h.get? b = some o) : (sortedHeap (h.push (seqObj "list" vs.toArray 0)) h.objs.size vs out).get? b = some o := by
  have lt := Heap.lt_size e
  refine (sortedHeap_old (Nat.ne_of_lt lt) ?_).trans (Heap.get?_push_of_some _ e)
  rw [size_push']
  exact Nat.lt_succ_of_lt lt
/-- sorted(a), a set of texts -/
theorem sorted_setT1 {S : Str → Bool} {n : Nat} {Q : Value → Shared → Prop} (R : SetT P w s.heap a S n) (hh : A.handled = none) (h64 : n < 64)
    (hQ : ∀ s' p (out : Array Value) (c : Nat) (ns : List Str), (∀ b o, s.heap.get? b = some o → s'.heap.get? b = some o) → s'.gens = s.gens → s'.os = s.os → s.heap.objs.size ≤ p →
      s'.heap.get? p = some (seqObj "list" out c) → StrsAre out.toList ns → sortedS ns = true → ns.Nodup → (∀ k, k ∈ ns ↔ S k = true) → ns.length = n → Q (.ref p) s') :
    wpAny (model P w) A (call (.builtin "sorted") [.ref a]) Q E s := by
  obtain ⟨⟨es, ep, t⟩, l, ho, F, r, d, nd, hm, hn⟩ := R
  have sz : es.size = n := (show es.size = l.length from F.sz).trans hn
  refine sorted_got strKind_oneLt (Got := fun s1 vs => (∀ b o, s.heap.get? b = some o → s1.heap.get? b = some o) ∧ s.heap.objs.size ≤ s1.heap.objs.size ∧ s1.gens = s.gens ∧ s1.os = s.os ∧ vs.length = n ∧ StrsAre vs (vs.map strOf) ∧ (vs.map strOf).Perm l)
    (fun E' Q' hq => collect_set (A := A.in1) hh ⟨_, ho, rfl, rfl⟩ F.fit (show es.size < scanBound by unfold scanBound; omega) r d fun s1 vs k1 z1 g1 o1 pm => hq s1 vs ?_) (fun s1 vs ⟨_, _, _, _, len, tx, _⟩ => ⟨len ▸ h64, tx.keysOf, fun v₁ v₂ rest e => keyKind_strs (e ▸ tx)⟩) fun s1 vs st' ⟨k1, z1, g1, o1, len, tx, pm⟩ p1 p2 => ?_
  · have len : vs.length = n := by rw [pm.length_eq, List.length_map, Array.length_toList, sz]
    have text : ∀ v ∈ vs, ∃ k u, v = Value.str k u := fun v hv => by
      obtain ⟨e, he, q⟩ := List.mem_map.mp (pm.mem_iff.mp hv)
      obtain ⟨⟨k, hk, _⟩, _⟩ := F.el e he
      have hk : Value.isStrOf k e.2 = true := hk
      rw [q] at hk
      cases v <;> first | exact ⟨_, _, rfl⟩ | cases hk
    refine ⟨k1, z1, g1, o1, len, strs_of_all vs text, perm_cov l _ nd (fun k hk => ?_) (by rw [List.length_map, len, hn]; exact Nat.le_refl _)⟩
    obtain ⟨e, he, q⟩ := (F.mem k).mp hk
    refine List.mem_map.mpr ⟨e.2, pm.mem_iff.mpr (List.mem_map.mpr ⟨e, he, rfl⟩), ?_⟩
    have q : Value.isStrOf k e.2 = true := q
    cases z : e.2 <;> rw [z] at q <;> first | cases q | exact eq_of_beq q
  · obtain ⟨ns, b1, b2, b3⟩ := sorted_out_str tx p1 p2
    obtain ⟨c, hc⟩ := sortedHeap_at (vs := vs) (out := (arrOf st').map (·.2)) (Heap.get?_push_size s1.heap (o := seqObj "list" vs.toArray 0) rfl)
    have all := b2.trans pm
    exact hQ _ _ _ c ns (fun b o e => sorted_keeps (k1 b o e)) g1 o1 z1 hc b1 b3 (all.nodup_iff.mpr nd) (fun k => by rw [all.mem_iff, ← hm k]) (all.length_eq.trans hn)
end
section
variable {X : Cx} {pins : List (Addr × Obj)} {σ : St} {H : Hp} {s s' : Shared}
/-- a list more, in a state that else is as it was -/
theorem inv_out {x : Addr} {us : List V} {out : Array Value} {c : Nat} (I : Inv X pins σ H s) (k : ∀ b o, s.heap.get? b = some o → s'.heap.get? b = some o) (g : s'.gens = s.gens) (o : s'.os = s.os) (hp : s.heap.objs.size ≤ x) (hlen : us.length ≤ sizeLine) (rv : Vals us out.toList)
    (hg : s'.heap.get? x = some (seqObj "list" out c)) : Inv X pins σ (upd H x (.lst us)) s' := by
  refine I.call' (ch := []) o (Un.laid k hp (I.hok.fresh hp)) (I.hok.laid k hp ⟨hlen, out.toList, c, rv, hg⟩) ?_ fun b z => nomatch z
  rw [g]
  exact I.bare
end
end L2
namespace F
open PySem PySem.Spec PyProof.Rows L2
/-! ### ints -/
def uinI (a : Int) : List Int → List Int
  | [] => [a]
  | b :: l => if a < b then a :: b :: l else if a = b then b :: l else b :: uinI a l
def usrtI : List Int → List Int
  | [] => []
  | a :: l => uinI a (usrtI l)
theorem mem_uin (a k : Int) : ∀ l : List Int, k ∈ uinI a l ↔ k = a ∨ k ∈ l
  | [] => by simp [uinI]
  | b :: l => by
    unfold uinI
    split
    · simp
    · split
      · rename_i h
        subst h
        simp
      · rw [List.mem_cons, mem_uin a k l, List.mem_cons]
        constructor
        · rintro (h | h | h)
          · exact .inr (.inl h)
          · exact .inl h
          · exact .inr (.inr h)
        · rintro (h | h | h)
          · exact .inr (.inl h)
          · exact .inl h
          · exact .inr (.inr h)
theorem pw_uin (a : Int) : ∀ l : List Int, l.Pairwise (· < ·) → (uinI a l).Pairwise (· < ·)
  | [], _ => by simp [uinI]
  | b :: l, h => by
    obtain ⟨h1, h2⟩ := List.pairwise_cons.mp h
    unfold uinI
    split
    · rename_i z
      refine List.pairwise_cons.mpr ⟨fun k hk => ?_, h⟩
      rcases List.mem_cons.mp hk with rfl | hk
      · exact z
      · exact Int.lt_trans z (h1 k hk)
    · split
      · exact h
      · rename_i z1 z2
        refine List.pairwise_cons.mpr ⟨fun k hk => ?_, pw_uin a l h2⟩
        rcases (mem_uin a k l).mp hk with rfl | hk
        · omega
        · exact h1 k hk
theorem mem_usrt (k : Int) : ∀ l : List Int, k ∈ usrtI l ↔ k ∈ l
  | [] => Iff.rfl
  | a :: l => by
    show k ∈ uinI a (usrtI l) ↔ _
    rw [mem_uin, mem_usrt k l, List.mem_cons]
theorem pw_usrt : ∀ l : List Int, (usrtI l).Pairwise (· < ·)
  | [] => List.Pairwise.nil
  | a :: l => pw_uin a _ (pw_usrt l)
theorem srt_one : ∀ (l m : List Int), l.Pairwise (· < ·) → m.Pairwise (· < ·) → (∀ k, k ∈ l ↔ k ∈ m) → l = m
  | [], [], _, _, _ => rfl
  | [], b :: m, _, _, h => by cases (h b).mpr (List.mem_cons_self ..)
  | a :: l, [], _, _, h => by cases (h a).mp (List.mem_cons_self ..)
  | a :: l, b :: m, h1, h2, h => by
    obtain ⟨p1, q1⟩ := List.pairwise_cons.mp h1
    obtain ⟨p2, q2⟩ := List.pairwise_cons.mp h2
    have e : a = b := by
      rcases List.mem_cons.mp ((h a).mp (List.mem_cons_self ..)) with z | z
      · exact z
      · rcases List.mem_cons.mp ((h b).mpr (List.mem_cons_self ..)) with y | y
        · exact y.symm
        · have := p2 a z
          have := p1 b y
          omega
    subst e
    rw [srt_one l m q1 q2 fun k => ?_]
    constructor
    · intro hk
      rcases List.mem_cons.mp ((h k).mp (List.mem_cons_of_mem _ hk)) with z | z
      · have := p1 k hk
        omega
      · exact z
    · intro hk
      rcases List.mem_cons.mp ((h k).mpr (List.mem_cons_of_mem _ hk)) with z | z
      · have := p2 k hk
        omega
      · exact z
theorem len_uin (a : Int) : ∀ l : List Int, (uinI a l).length ≤ l.length + 1
  | [] => Nat.le_refl _
  | b :: l => by
    unfold uinI
    split
    · exact Nat.le_refl _
    · split
      · exact Nat.le_succ _
      · exact Nat.succ_le_succ (len_uin a l)
theorem len_usrt : ∀ l : List Int, (usrtI l).length ≤ l.length
  | [] => Nat.le_refl _
  | a :: l => Nat.le_trans (len_uin a _) (Nat.succ_le_succ (len_usrt l))
def srtSI : D → Option (List D)
  | .lst l => (intsOf l).bind fun ns => if ns.length < 64 then some ((usrtI ns).map .int) else none
  | _ => none
def rSrtSI (K : PySem.W.Frag) : V → Hp → VK → Prop := fun x H1 Q => ∃ (l : Addr) (ns : List Int), x = .ref l ∧ SqL K H1 l (ns.map V.int) ∧ ns.length < 64 ∧ ∀ (ks : List Int) (p : Addr), ks.Pairwise (· < ·) → (∀ k, k ∈ ks ↔ k ∈ ns) → H1 p = none → Q (.ref p) (upd H1 p (.lst (ks.map V.int)))
theorem srtSI_run {X : Cx} (hc : X.calm = true) (pins : List (Addr × Obj)) (s : Shared) (σ : L2.St) (H : Hp) (x : V) (v : Value) (Q : VK) (I : Inv X pins σ H s) (rx : RelV x v) (h : rSrtSI X.K x H Q) :
    wpAny (model X.prog X.w) X.A (call (.type "set") [v]) (fun u s1 => wpAny (model X.prog X.w) X.A (call (.builtin "sorted") [u]) (EP X pins σ Q) X.xe s1) X.xe s := by
  obtain ⟨l, ns, e, hq, few, q⟩ := h
  subst e
  obtain rfl : v = .ref l := rx
  have ⟨its, rv, pl, _⟩ := I.list hq
  have hi : IntsAre its.toArray.toList ns := by simpa using rv.ints
  have sz : its.toArray.size = ns.length := (Array.length_toList (xs := its.toArray)).symm.trans (IntsAre.length hi)
  refine call_set_fills (I.ok.hd hc) pl.isList (fills_ints hi (by unfold scanBound; omega)) fun h' tk ⟨c, cl, R⟩ keep => ?_
  rw [sz, List.take_length] at R
  have I2 := I.kept (t' := tk) keep
  refine sorted_set R (I2.ok.hd hc) (by omega) fun s' p out c' ks k g o hp hg hk hs hmm hl => ?_
  exact ⟨.ref p, _, inv_out I2 k g o hp (by rw [List.length_map, hl, sizeLine_eq]; omega) (vals_of_ints hk) hg, rfl, q ks p hs (fun k => (hmm k).trans decide_eq_true_iff) (I2.hok.fresh hp)⟩
theorem dats_intsC : ∀ (ns : List Int) (c : Cn) (H : Hp), Dats c H (ns.map .int) (ns.map V.int)
  | [], _, _ => rfl
  | n :: ns, c, H => ⟨.int n, _, rfl, rfl, dats_intsC ns c H⟩
theorem v_srtSI {c : Cn} : LOp1 c (rSrtSI c.K) srtSI := by
  intro H0 H v dx l Q s e hd nl
  match dx, e with
  | .lst x, e =>
    obtain ⟨ns, e1, e2⟩ := Option.bind_eq_some_iff.mp (show (intsOf x).bind (fun ns => if ns.length < 64 then some ((usrtI ns).map .int) else none) = some l from e)
    by_cases h1 : ns.length < 64
    · rw [if_pos h1] at e2
      cases e2
      have e1 := intsOf_map e1
      subst e1
      obtain ⟨hl, a, vs, rfl, h2, h3⟩ := hd
      have e3 := strs_ints h3
      subst e3
      refine ⟨a, ns, rfl, h2, h1, fun ks p hp hm hn => ?_⟩
      rw [srt_one ks (usrtI ns) hp (pw_usrt ns) fun k => by rw [hm k, mem_usrt]]
      refine nl p _ hn ?_ (dats_intsC _ _ _)
      rw [List.length_map]
      have := len_usrt ns
      show _ ≤ 16777216
      omega
    · rw [if_neg h1] at e2
      cases e2
/-! ### texts of one sign -/
def dedN : List Nat → List Nat
  | [] => []
  | a :: l => if a ∈ l then dedN l else a :: dedN l
theorem mem_ded (k : Nat) : ∀ l : List Nat, k ∈ dedN l ↔ k ∈ l
  | [] => Iff.rfl
  | a :: l => by
    unfold dedN
    split
    · rename_i h
      rw [mem_ded k l, List.mem_cons]
      exact ⟨.inr, fun z => z.elim (fun e => e ▸ h) id⟩
    · rw [List.mem_cons, mem_ded k l, List.mem_cons]
theorem nd_ded : ∀ l : List Nat, (dedN l).Nodup
  | [] => List.nodup_nil
  | a :: l => by
    unfold dedN
    split
    · exact nd_ded l
    · rename_i h
      exact List.nodup_cons.mpr ⟨fun z => h ((mem_ded a l).mp z), nd_ded l⟩
theorem len_ded : ∀ l : List Nat, (dedN l).length ≤ l.length
  | [] => Nat.le_refl _
  | a :: l => by
    unfold dedN
    split
    · exact Nat.le_succ_of_le (len_ded l)
    · exact Nat.succ_le_succ (len_ded l)
theorem mkC_inj {a b : Nat} (h : mkC a = mkC b) : a = b := by
  have : [a] = [b] := congrArg (fun y : Str => y.cps.toList) h
  simpa using this
def srtST : D → Option (List D)
  | .lst l => (chsOf l).bind fun cs => if cs.length < 64 then some ((insS (dedN cs)).map fun k => D.str [k]) else none
  | _ => none
def rSrtST (K : PySem.W.Frag) : V → Hp → VK → Prop := fun x H1 Q => ∃ (l : Addr) (ns : List Str), x = .ref l ∧ SqL K H1 l (ns.map V.str) ∧ ns.length < 64 ∧ ∀ (ks : List Str) (p : Addr), sortedS ks = true → ks.Nodup → (∀ k, k ∈ ks ↔ k ∈ ns) → H1 p = none → Q (.ref p) (upd H1 p (.lst (ks.map V.str)))
theorem srtST_run {X : Cx} (hc : X.calm = true) (pins : List (Addr × Obj)) (s : Shared) (σ : L2.St) (H : Hp) (x : V) (v : Value) (Q : VK) (I : Inv X pins σ H s) (rx : RelV x v) (h : rSrtST X.K x H Q) :
    wpAny (model X.prog X.w) X.A (call (.type "set") [v]) (fun u s1 => wpAny (model X.prog X.w) X.A (call (.builtin "sorted") [u]) (EP X pins σ Q) X.xe s1) X.xe s := by
  obtain ⟨l, ns, e, hq, few, q⟩ := h
  subst e
  obtain rfl : v = .ref l := rx
  have ⟨its, rv, pl, _⟩ := I.list hq
  have hi : PyProof.Rows.StrsAre its.toArray.toList ns := by simpa using rv.strs
  have sz : its.toArray.size = ns.length := (Array.length_toList (xs := its.toArray)).symm.trans (PyProof.Rows.StrsAre.len_eq hi)
  refine call_set_fills (I.ok.hd hc) pl.isList (fills_txts hi (by unfold scanBound; omega)) fun h' tk ⟨c, cl, R⟩ keep => ?_
  rw [sz, List.take_length] at R
  have I2 := I.kept (t' := tk) keep
  refine sorted_setT1 R (I2.ok.hd hc) (by omega) fun s' p out c' ks k g o hp hg hk hs hnd hmm hl => ?_
  exact ⟨.ref p, _, inv_out I2 k g o hp (by rw [List.length_map, hl, sizeLine_eq]; omega) (vals_of_strs hk) hg, rfl, q ks p hs hnd (fun k => (hmm k).trans decide_eq_true_iff) (I2.hok.fresh hp)⟩
theorem v_srtST {c : Cn} : LOp1 c (rSrtST c.K) srtST := by
  intro H0 H v dx l Q s e hd nl
  match dx, e with
  | .lst x, e =>
    obtain ⟨cs, e1, e2⟩ := Option.bind_eq_some_iff.mp (show (chsOf x).bind (fun cs => if cs.length < 64 then some ((insS (dedN cs)).map fun k => D.str [k]) else none) = some l from e)
    by_cases h1 : cs.length < 64
    · rw [if_pos h1] at e2
      cases e2
      have e1 := chsOf_map e1
      subst e1
      obtain ⟨hl, a, vs, rfl, h2, h3⟩ := hd
      have e3 := strs_chs h3
      subst e3
      refine ⟨a, cs.map mkC, rfl, h2, by rw [List.length_map]; exact h1, fun ks p hp hnd hm hn => ?_⟩
      have nd2 : ((dedN cs).map mkC).Nodup := by
        rw [List.Nodup, List.pairwise_map]
        exact (nd_ded cs).imp fun h z => h (mkC_inj z)
      have pm : ks.Perm ((dedN cs).map mkC) := by
        have mm : ∀ k, k ∈ ks ↔ k ∈ (dedN cs).map mkC := fun k => by
          rw [hm k, List.mem_map, List.mem_map]
          exact ⟨fun ⟨x, hx, e⟩ => ⟨x, (mem_ded x cs).mpr hx, e⟩, fun ⟨x, hx, e⟩ => ⟨x, (mem_ded x cs).mp hx, e⟩⟩
        have l1 : ks.length ≤ ((dedN cs).map mkC).length := hnd.length_le_of_subset fun k hk => (mm k).mp hk
        exact perm_cov _ ks nd2 (fun k hk => (mm k).mpr hk) l1
      rw [sort_uniq pm hp]
      refine nl p _ hn ?_ (chs_dats _ _ _)
      rw [List.length_map, insS_len]
      have := len_ded cs
      show _ ≤ 16777216
      omega
    · rw [if_neg h1] at e2
      cases e2
section
variable {X : Cx} {t : Tb} {W : WX} {a : Expr} {ma : M R} {p p2 q pos : Pos}
theorem se_srtSI (hc : X.calm = true) (hg : Gl X "sorted") (hm : X.mg "sorted" = none) (hg2 : Gl X "set") (hm2 : X.mg "set" = none) (ha : SE X t W a ma)
    (na : starEach [a] X.env = (false, eval a X.env) :: starEach [] X.env := by rfl) : SE X t W (.Call (.Name "sorted" p) [.Call (.Name "set" p2) [a] [] q] [] pos) (mOl1 srtSI ma) :=
  PE.imp (pe_two (srtSI_run hc) hg hm boot_sorted hg2 hm2 boot_set ha na) fun σ H Q q => tI_ol1 (r := rSrtSI X.K) v_srtSI q
theorem se_srtST (hc : X.calm = true) (hg : Gl X "sorted") (hm : X.mg "sorted" = none) (hg2 : Gl X "set") (hm2 : X.mg "set" = none) (ha : SE X t W a ma)
    (na : starEach [a] X.env = (false, eval a X.env) :: starEach [] X.env := by rfl) : SE X t W (.Call (.Name "sorted" p) [.Call (.Name "set" p2) [a] [] q] [] pos) (mOl1 srtST ma) :=
  PE.imp (pe_two (srtST_run hc) hg hm boot_sorted hg2 hm2 boot_set ha na) fun σ H Q q => tI_ol1 (r := rSrtST X.K) v_srtST q
end
end F
end

section
set_option Elab.async false
set_option linter.all false
set_option autoImplicit false
set_option maxRecDepth 100000
set_option maxHeartbeats 0

namespace F
open PySem PySem.Spec PyProof.Rows L2
abbrev c_KINDS : List (List Nat × D) := strKD k_KINDS
abbrev c_TAILS : List D := strD k_TAILS
theorem tf_of : ∀ q ∈ tfq, ((q.1, none) : He.Defn) ∈ tf := by decide
def Fx (w : World) (K : PySem.W.Frag) (mg : Str → Option Value) : Prop := ∃ h : Heap, K.In h ∧ h.Ns mainGlobals mg ∧ He.SaysX fa fn ts tf exB w h K
def tb (K : PySem.W.Frag) : Tb := ⟨fun _ => 0, fun _ => [], fun _ => Str.empty, tbs K, fun _ _ _ _ => False, fun _ _ _ _ _ _ h => h, fun _ _ _ _ h => h.elim⟩
theorem no9 {K : PySem.W.Frag} : ∀ d v H, ¬ (tb K).ex 9 d v H := fun _ _ _ h => h
def Bx (K : PySem.W.Frag) (mg : Str → Option Value) (base : Heap) : Prop := ∀ p ∈ tf, LamX.TabB base mg (He.cT K p).1 (He.cT K p).2
section
variable {P : Program} {w : World} {K : PySem.W.Frag} {mg : Str → Option Value} {base : Heap}
theorem g__law_bag (F : Fx w K mg) : mg "_law_bag" = some (.ref (He.ga K "_law_bag")) := by
  obtain ⟨h, X, G, c⟩ := F
  exact He.glo_ok X G (c.t.d.fact 0 (f := .glo "_law_bag") rfl)
theorem g__law_take (F : Fx w K mg) : mg "_law_take" = some (.ref (He.ga K "_law_take")) := by
  obtain ⟨h, X, G, c⟩ := F
  exact He.glo_ok X G (c.t.d.fact 1 (f := .glo "_law_take") rfl)
theorem g__law_of (F : Fx w K mg) : mg "_law_of" = some (.ref (He.ga K "_law_of")) := by
  obtain ⟨h, X, G, c⟩ := F
  exact He.glo_ok X G (c.t.d.fact 2 (f := .glo "_law_of") rfl)
theorem g__law_character (F : Fx w K mg) : mg "_law_character" = some (.ref (He.ga K "_law_character")) := by
  obtain ⟨h, X, G, c⟩ := F
  exact He.glo_ok X G (c.t.d.fact 3 (f := .glo "_law_character") rfl)
theorem g__law_text (F : Fx w K mg) : mg "_law_text" = some (.ref (He.ga K "_law_text")) := by
  obtain ⟨h, X, G, c⟩ := F
  exact He.glo_ok X G (c.t.d.fact 4 (f := .glo "_law_text") rfl)
theorem g_first_unknown (F : Fx w K mg) : mg "first_unknown" = some (.ref (He.ga K "first_unknown")) := by
  obtain ⟨h, X, G, c⟩ := F
  exact He.glo_ok X G (c.t.d.fact 5 (f := .glo "first_unknown") rfl)
theorem g_overfull (F : Fx w K mg) : mg "overfull" = some (.ref (He.ga K "overfull")) := by
  obtain ⟨h, X, G, c⟩ := F
  exact He.glo_ok X G (c.t.d.fact 6 (f := .glo "overfull") rfl)
theorem g_first_fault (F : Fx w K mg) : mg "first_fault" = some (.ref (He.ga K "first_fault")) := by
  obtain ⟨h, X, G, c⟩ := F
  exact He.glo_ok X G (c.t.d.fact 7 (f := .glo "first_fault") rfl)
theorem g_need_text (F : Fx w K mg) : mg "need_text" = some (.ref (He.ga K "need_text")) := by
  obtain ⟨h, X, G, c⟩ := F
  exact He.glo_ok X G (c.t.d.fact 8 (f := .glo "need_text") rfl)
theorem g_need_plain (F : Fx w K mg) : mg "need_plain" = some (.ref (He.ga K "need_plain")) := by
  obtain ⟨h, X, G, c⟩ := F
  exact He.glo_ok X G (c.t.d.fact 9 (f := .glo "need_plain") rfl)
theorem g_direction_of (F : Fx w K mg) : mg "direction_of" = some (.ref (He.ga K "direction_of")) := by
  obtain ⟨h, X, G, c⟩ := F
  exact He.glo_ok X G (c.t.d.fact 10 (f := .glo "direction_of") rfl)
theorem g_next_direction (F : Fx w K mg) : mg "next_direction" = some (.ref (He.ga K "next_direction")) := by
  obtain ⟨h, X, G, c⟩ := F
  exact He.glo_ok X G (c.t.d.fact 11 (f := .glo "next_direction") rfl)
theorem g_fate (F : Fx w K mg) : mg "fate" = some (.ref (He.ga K "fate")) := by
  obtain ⟨h, X, G, c⟩ := F
  exact He.glo_ok X G (c.t.d.fact 12 (f := .glo "fate") rfl)
theorem g_next_state (F : Fx w K mg) : mg "next_state" = some (.ref (He.ga K "next_state")) := by
  obtain ⟨h, X, G, c⟩ := F
  exact He.glo_ok X G (c.t.d.fact 13 (f := .glo "next_state") rfl)
theorem g_fate_within (F : Fx w K mg) : mg "fate_within" = some (.ref (He.ga K "fate_within")) := by
  obtain ⟨h, X, G, c⟩ := F
  exact He.glo_ok X G (c.t.d.fact 14 (f := .glo "fate_within") rfl)
theorem g_read_in (F : Fx w K mg) : mg "read_in" = some (.ref (He.ga K "read_in")) := by
  obtain ⟨h, X, G, c⟩ := F
  exact He.glo_ok X G (c.t.d.fact 15 (f := .glo "read_in") rfl)
theorem g_entry_of (F : Fx w K mg) : mg "entry_of" = some (.ref (He.ga K "entry_of")) := by
  obtain ⟨h, X, G, c⟩ := F
  exact He.glo_ok X G (c.t.d.fact 16 (f := .glo "entry_of") rfl)
theorem g_states (F : Fx w K mg) : mg "states" = some (.ref (He.ga K "states")) := by
  obtain ⟨h, X, G, c⟩ := F
  exact He.glo_ok X G (c.t.d.fact 17 (f := .glo "states") rfl)
theorem g_effect_of (F : Fx w K mg) : mg "effect_of" = some (.ref (He.ga K "effect_of")) := by
  obtain ⟨h, X, G, c⟩ := F
  exact He.glo_ok X G (c.t.d.fact 18 (f := .glo "effect_of") rfl)
theorem g_words_of (F : Fx w K mg) : mg "words_of" = some (.ref (He.ga K "words_of")) := by
  obtain ⟨h, X, G, c⟩ := F
  exact He.glo_ok X G (c.t.d.fact 19 (f := .glo "words_of") rfl)
theorem g_effect (F : Fx w K mg) : mg "effect" = some (.ref (He.ga K "effect")) := by
  obtain ⟨h, X, G, c⟩ := F
  exact He.glo_ok X G (c.t.d.fact 20 (f := .glo "effect") rfl)
theorem g__law_word (F : Fx w K mg) : mg "_law_word" = some (.ref (He.ga K "_law_word")) := by
  obtain ⟨h, X, G, c⟩ := F
  exact He.glo_ok X G (c.t.d.fact 21 (f := .glo "_law_word") rfl)
theorem g__law_next (F : Fx w K mg) : mg "_law_next" = some (.ref (He.ga K "_law_next")) := by
  obtain ⟨h, X, G, c⟩ := F
  exact He.glo_ok X G (c.t.d.fact 22 (f := .glo "_law_next") rfl)
theorem g__law_ahead (F : Fx w K mg) : mg "_law_ahead" = some (.ref (He.ga K "_law_ahead")) := by
  obtain ⟨h, X, G, c⟩ := F
  exact He.glo_ok X G (c.t.d.fact 23 (f := .glo "_law_ahead") rfl)
theorem g__law_sides (F : Fx w K mg) : mg "_law_sides" = some (.ref (He.ga K "_law_sides")) := by
  obtain ⟨h, X, G, c⟩ := F
  exact He.glo_ok X G (c.t.d.fact 24 (f := .glo "_law_sides") rfl)
theorem g__law_kinds (F : Fx w K mg) : mg "_law_kinds" = some (.ref (He.ga K "_law_kinds")) := by
  obtain ⟨h, X, G, c⟩ := F
  exact He.glo_ok X G (c.t.d.fact 25 (f := .glo "_law_kinds") rfl)
theorem g__law_way (F : Fx w K mg) : mg "_law_way" = some (.ref (He.ga K "_law_way")) := by
  obtain ⟨h, X, G, c⟩ := F
  exact He.glo_ok X G (c.t.d.fact 26 (f := .glo "_law_way") rfl)
theorem g__law_ways (F : Fx w K mg) : mg "_law_ways" = some (.ref (He.ga K "_law_ways")) := by
  obtain ⟨h, X, G, c⟩ := F
  exact He.glo_ok X G (c.t.d.fact 27 (f := .glo "_law_ways") rfl)
theorem g__law_shown (F : Fx w K mg) : mg "_law_shown" = some (.ref (He.ga K "_law_shown")) := by
  obtain ⟨h, X, G, c⟩ := F
  exact He.glo_ok X G (c.t.d.fact 28 (f := .glo "_law_shown") rfl)
theorem g__law_neutral (F : Fx w K mg) : mg "_law_neutral" = some (.ref (He.ga K "_law_neutral")) := by
  obtain ⟨h, X, G, c⟩ := F
  exact He.glo_ok X G (c.t.d.fact 29 (f := .glo "_law_neutral") rfl)
theorem g__law_waiting (F : Fx w K mg) : mg "_law_waiting" = some (.ref (He.ga K "_law_waiting")) := by
  obtain ⟨h, X, G, c⟩ := F
  exact He.glo_ok X G (c.t.d.fact 30 (f := .glo "_law_waiting") rfl)
theorem g_law (F : Fx w K mg) : mg "law" = some (.ref (He.ga K "law")) := by
  obtain ⟨h, X, G, c⟩ := F
  exact He.glo_ok X G (c.t.d.fact 31 (f := .glo "law") rfl)
theorem n_abs (F : Fx w K mg) : mg "abs" = none := by
  obtain ⟨h, X, G, c⟩ := F
  exact He.free_ok X G (c.t.d.fact 32 (f := .free "abs") rfl)
theorem n_enumerate (F : Fx w K mg) : mg "enumerate" = none := by
  obtain ⟨h, X, G, c⟩ := F
  exact He.free_ok X G (c.t.d.fact 33 (f := .free "enumerate") rfl)
theorem n_int (F : Fx w K mg) : mg "int" = none := by
  obtain ⟨h, X, G, c⟩ := F
  exact He.free_ok X G (c.t.d.fact 34 (f := .free "int") rfl)
theorem n_isinstance (F : Fx w K mg) : mg "isinstance" = none := by
  obtain ⟨h, X, G, c⟩ := F
  exact He.free_ok X G (c.t.d.fact 35 (f := .free "isinstance") rfl)
theorem n_len (F : Fx w K mg) : mg "len" = none := by
  obtain ⟨h, X, G, c⟩ := F
  exact He.free_ok X G (c.t.d.fact 36 (f := .free "len") rfl)
theorem n_max (F : Fx w K mg) : mg "max" = none := by
  obtain ⟨h, X, G, c⟩ := F
  exact He.free_ok X G (c.t.d.fact 37 (f := .free "max") rfl)
theorem n_min (F : Fx w K mg) : mg "min" = none := by
  obtain ⟨h, X, G, c⟩ := F
  exact He.free_ok X G (c.t.d.fact 38 (f := .free "min") rfl)
theorem n_range (F : Fx w K mg) : mg "range" = none := by
  obtain ⟨h, X, G, c⟩ := F
  exact He.free_ok X G (c.t.d.fact 39 (f := .free "range") rfl)
theorem n_repr (F : Fx w K mg) : mg "repr" = none := by
  obtain ⟨h, X, G, c⟩ := F
  exact He.free_ok X G (c.t.d.fact 40 (f := .free "repr") rfl)
theorem n_set (F : Fx w K mg) : mg "set" = none := by
  obtain ⟨h, X, G, c⟩ := F
  exact He.free_ok X G (c.t.d.fact 41 (f := .free "set") rfl)
theorem n_sorted (F : Fx w K mg) : mg "sorted" = none := by
  obtain ⟨h, X, G, c⟩ := F
  exact He.free_ok X G (c.t.d.fact 42 (f := .free "sorted") rfl)
theorem n_str (F : Fx w K mg) : mg "str" = none := by
  obtain ⟨h, X, G, c⟩ := F
  exact He.free_ok X G (c.t.d.fact 43 (f := .free "str") rfl)
theorem n_zip (F : Fx w K mg) : mg "zip" = none := by
  obtain ⟨h, X, G, c⟩ := F
  exact He.free_ok X G (c.t.d.fact 44 (f := .free "zip") rfl)
theorem v_BEGINS (F : Fx w K mg) : ∃ u, mg "BEGINS" = some (.str (sS c_BEGINS) u) := by
  obtain ⟨h, X, G, c⟩ := F
  exact He.str_ok X G (c.t.d.fact 45 (f := .str "BEGINS" (sS c_BEGINS)) rfl)
theorem v_DIGIT (F : Fx w K mg) : ∃ u, mg "DIGIT" = some (.str (sS c_DIGIT) u) := by
  obtain ⟨h, X, G, c⟩ := F
  exact He.str_ok X G (c.t.d.fact 46 (f := .str "DIGIT" (sS c_DIGIT)) rfl)
theorem v_END (F : Fx w K mg) : ∃ u, mg "END" = some (.str (sS c_END) u) := by
  obtain ⟨h, X, G, c⟩ := F
  exact He.str_ok X G (c.t.d.fact 47 (f := .str "END" (sS c_END)) rfl)
theorem g_KINDS (F : Fx w K mg) : mg "KINDS" = some (.ref (He.ga K "KINDS")) := by
  obtain ⟨h, X, G, c⟩ := F
  exact He.glo_ok X G (c.t.d.fact 48 (f := .glo "KINDS") rfl)
theorem v_KNOWN (F : Fx w K mg) : ∃ u, mg "KNOWN" = some (.str (sS c_KNOWN) u) := by
  obtain ⟨h, X, G, c⟩ := F
  exact He.str_ok X G (c.t.d.fact 49 (f := .str "KNOWN" (sS c_KNOWN)) rfl)
theorem v_MOST_CHARACTERS (F : Fx w K mg) : ∃ u, mg "MOST_CHARACTERS" = some (.int 400 u) := by
  obtain ⟨h, X, G, c⟩ := F
  exact He.int_ok X G (c.t.d.fact 50 (f := .int "MOST_CHARACTERS" 400) rfl)
theorem v_MOST_OPEN (F : Fx w K mg) : ∃ u, mg "MOST_OPEN" = some (.int 20 u) := by
  obtain ⟨h, X, G, c⟩ := F
  exact He.int_ok X G (c.t.d.fact 51 (f := .int "MOST_OPEN" 20) rfl)
theorem v_PLAIN_CHARACTERS (F : Fx w K mg) : ∃ u, mg "PLAIN_CHARACTERS" = some (.str (sS c_PLAIN_CHARACTERS) u) := by
  obtain ⟨h, X, G, c⟩ := F
  exact He.str_ok X G (c.t.d.fact 52 (f := .str "PLAIN_CHARACTERS" (sS c_PLAIN_CHARACTERS)) rfl)
theorem v_STRONG (F : Fx w K mg) : ∃ u, mg "STRONG" = some (.str (sS c_STRONG) u) := by
  obtain ⟨h, X, G, c⟩ := F
  exact He.str_ok X G (c.t.d.fact 53 (f := .str "STRONG" (sS c_STRONG)) rfl)
theorem g_TAILS (F : Fx w K mg) : mg "TAILS" = some (.ref (He.ga K "TAILS")) := by
  obtain ⟨h, X, G, c⟩ := F
  exact He.glo_ok X G (c.t.d.fact 54 (f := .glo "TAILS") rfl)
theorem t_KINDS (F : Fx w K mg) {X : Cx} {t : Tb} (hK : X.K = K) (hw : X.w = w) : KTab X t (He.ga K "KINDS") c_KINDS := by
  obtain ⟨h, Y, G, q⟩ := F
  exact tab_kd hK hw (q.t.tab 0 (t := (fun K => He.ga K "KINDS", (["a", "b", "c", "d", "e", "f", "g", "h", "i", "j", "k", "l", "m", "n", "o", "p", "q", "r", "s", "t"] : List Str) ++ (["u", "v", "w", "x", "y", "z", "+", "A", "B", "C", "D", "E", "F", "G", "H", "I", "J", "K", "L", "M"] : List Str) ++ (["*", "N", "O", "P", "Q", "R", "S", "T", "U", "V", "W", "X", "Y", "Z", "0", "1", "2", "3", "4", "5"] : List Str) ++ (["6", "7", "8", "9", ",", ".", ":", "$", "#", " ", "!", "?", "-", "(", ")", "[", "]"] : List Str))) rfl) ((He.ba q.more).1) (by decide)
theorem t_TAILS (F : Fx w K mg) {c : Cn} (hK : c.K = K) (H : Hp) : Dat c H (.tup c_TAILS) (.ref (He.ga K "TAILS")) := by
  obtain ⟨h, X, G, q⟩ := F
  exact tab_strs c hK ((He.ba q.more).2) (by decide) (by decide) H
theorem fd__law_bag (F : Fx w K mg) : ∃ fd, FunD K "_law_bag" "_law_bag" (defArgs (top 31)) (defBody (top 31)) (defScope (top 31)) (d__law_bag.dvs K) (d__law_bag.kws K) (He.ga K "_law_bag") fd := by
  obtain ⟨h, X, G, c⟩ := F
  exact c.t.d.def_ 0 (d := d__law_bag) rfl
theorem fd__law_take (F : Fx w K mg) : ∃ fd, FunD K "_law_take" "_law_take" (defArgs (top 32)) (defBody (top 32)) (defScope (top 32)) (d__law_take.dvs K) (d__law_take.kws K) (He.ga K "_law_take") fd := by
  obtain ⟨h, X, G, c⟩ := F
  exact c.t.d.def_ 1 (d := d__law_take) rfl
theorem fd__law_of (F : Fx w K mg) : ∃ fd, FunD K "_law_of" "_law_of" (defArgs (top 33)) (defBody (top 33)) (defScope (top 33)) (d__law_of.dvs K) (d__law_of.kws K) (He.ga K "_law_of") fd := by
  obtain ⟨h, X, G, c⟩ := F
  exact c.t.d.def_ 2 (d := d__law_of) rfl
theorem fd__law_character (F : Fx w K mg) : ∃ fd, FunD K "_law_character" "_law_character" (defArgs (top 34)) (defBody (top 34)) (defScope (top 34)) (d__law_character.dvs K) (d__law_character.kws K) (He.ga K "_law_character") fd := by
  obtain ⟨h, X, G, c⟩ := F
  exact c.t.d.def_ 3 (d := d__law_character) rfl
theorem fd__law_text (F : Fx w K mg) : ∃ fd, FunD K "_law_text" "_law_text" (defArgs (top 35)) (defBody (top 35)) (defScope (top 35)) (d__law_text.dvs K) (d__law_text.kws K) (He.ga K "_law_text") fd := by
  obtain ⟨h, X, G, c⟩ := F
  exact c.t.d.def_ 4 (d := d__law_text) rfl
theorem fd_first_unknown (F : Fx w K mg) : ∃ fd, FunD K "first_unknown" "first_unknown" (defArgs (top 11)) (defBody (top 11)) (defScope (top 11)) (d_first_unknown.dvs K) (d_first_unknown.kws K) (He.ga K "first_unknown") fd := by
  obtain ⟨h, X, G, c⟩ := F
  exact c.t.d.def_ 5 (d := d_first_unknown) rfl
theorem fd_overfull (F : Fx w K mg) : ∃ fd, FunD K "overfull" "overfull" (defArgs (top 10)) (defBody (top 10)) (defScope (top 10)) (d_overfull.dvs K) (d_overfull.kws K) (He.ga K "overfull") fd := by
  obtain ⟨h, X, G, c⟩ := F
  exact c.t.d.def_ 6 (d := d_overfull) rfl
theorem fd_first_fault (F : Fx w K mg) : ∃ fd, FunD K "first_fault" "first_fault" (defArgs (top 12)) (defBody (top 12)) (defScope (top 12)) (d_first_fault.dvs K) (d_first_fault.kws K) (He.ga K "first_fault") fd := by
  obtain ⟨h, X, G, c⟩ := F
  exact c.t.d.def_ 7 (d := d_first_fault) rfl
theorem fd_need_text (F : Fx w K mg) : ∃ fd, FunD K "need_text" "need_text" (defArgs (top 13)) (defBody (top 13)) (defScope (top 13)) (d_need_text.dvs K) (d_need_text.kws K) (He.ga K "need_text") fd := by
  obtain ⟨h, X, G, c⟩ := F
  exact c.t.d.def_ 8 (d := d_need_text) rfl
theorem fd_need_plain (F : Fx w K mg) : ∃ fd, FunD K "need_plain" "need_plain" (defArgs (top 23)) (defBody (top 23)) (defScope (top 23)) (d_need_plain.dvs K) (d_need_plain.kws K) (He.ga K "need_plain") fd := by
  obtain ⟨h, X, G, c⟩ := F
  exact c.t.d.def_ 9 (d := d_need_plain) rfl
theorem fd_direction_of (F : Fx w K mg) : ∃ fd, FunD K "direction_of" "direction_of" (defArgs (top 20)) (defBody (top 20)) (defScope (top 20)) (d_direction_of.dvs K) (d_direction_of.kws K) (He.ga K "direction_of") fd := by
  obtain ⟨h, X, G, c⟩ := F
  exact c.t.d.def_ 10 (d := d_direction_of) rfl
theorem fd_next_direction (F : Fx w K mg) : ∃ fd, FunD K "next_direction" "next_direction" (defArgs (top 21)) (defBody (top 21)) (defScope (top 21)) (d_next_direction.dvs K) (d_next_direction.kws K) (He.ga K "next_direction") fd := by
  obtain ⟨h, X, G, c⟩ := F
  exact c.t.d.def_ 11 (d := d_next_direction) rfl
theorem fd_fate (F : Fx w K mg) : ∃ fd, FunD K "fate" "fate" (defArgs (top 22)) (defBody (top 22)) (defScope (top 22)) (d_fate.dvs K) (d_fate.kws K) (He.ga K "fate") fd := by
  obtain ⟨h, X, G, c⟩ := F
  exact c.t.d.def_ 12 (d := d_fate) rfl
theorem fd_next_state (F : Fx w K mg) : ∃ fd, FunD K "next_state" "next_state" (defArgs (top 19)) (defBody (top 19)) (defScope (top 19)) (d_next_state.dvs K) (d_next_state.kws K) (He.ga K "next_state") fd := by
  obtain ⟨h, X, G, c⟩ := F
  exact c.t.d.def_ 13 (d := d_next_state) rfl
theorem fd_fate_within (F : Fx w K mg) : ∃ fd, FunD K "fate_within" "fate_within" (defArgs (top 26)) (defBody (top 26)) (defScope (top 26)) (d_fate_within.dvs K) (d_fate_within.kws K) (He.ga K "fate_within") fd := by
  obtain ⟨h, X, G, c⟩ := F
  exact c.t.d.def_ 14 (d := d_fate_within) rfl
theorem fd_read_in (F : Fx w K mg) : ∃ fd, FunD K "read_in" "read_in" (defArgs (top 25)) (defBody (top 25)) (defScope (top 25)) (d_read_in.dvs K) (d_read_in.kws K) (He.ga K "read_in") fd := by
  obtain ⟨h, X, G, c⟩ := F
  exact c.t.d.def_ 15 (d := d_read_in) rfl
theorem fd_entry_of (F : Fx w K mg) : ∃ fd, FunD K "entry_of" "entry_of" (defArgs (top 27)) (defBody (top 27)) (defScope (top 27)) (d_entry_of.dvs K) (d_entry_of.kws K) (He.ga K "entry_of") fd := by
  obtain ⟨h, X, G, c⟩ := F
  exact c.t.d.def_ 16 (d := d_entry_of) rfl
theorem fd_states (F : Fx w K mg) : ∃ fd, FunD K "states" "states" (defArgs (top 18)) (defBody (top 18)) (defScope (top 18)) (d_states.dvs K) (d_states.kws K) (He.ga K "states") fd := by
  obtain ⟨h, X, G, c⟩ := F
  exact c.t.d.def_ 17 (d := d_states) rfl
theorem fd_effect_of (F : Fx w K mg) : ∃ fd, FunD K "effect_of" "effect_of" (defArgs (top 28)) (defBody (top 28)) (defScope (top 28)) (d_effect_of.dvs K) (d_effect_of.kws K) (He.ga K "effect_of") fd := by
  obtain ⟨h, X, G, c⟩ := F
  exact c.t.d.def_ 18 (d := d_effect_of) rfl
theorem fd_words_of (F : Fx w K mg) : ∃ fd, FunD K "words_of" "words_of" (defArgs (top 24)) (defBody (top 24)) (defScope (top 24)) (d_words_of.dvs K) (d_words_of.kws K) (He.ga K "words_of") fd := by
  obtain ⟨h, X, G, c⟩ := F
  exact c.t.d.def_ 19 (d := d_words_of) rfl
theorem fd_effect (F : Fx w K mg) : ∃ fd, FunD K "effect" "effect" (defArgs (top 29)) (defBody (top 29)) (defScope (top 29)) (d_effect.dvs K) (d_effect.kws K) (He.ga K "effect") fd := by
  obtain ⟨h, X, G, c⟩ := F
  exact c.t.d.def_ 20 (d := d_effect) rfl
theorem fd__law_word (F : Fx w K mg) : ∃ fd, FunD K "_law_word" "_law_word" (defArgs (top 36)) (defBody (top 36)) (defScope (top 36)) (d__law_word.dvs K) (d__law_word.kws K) (He.ga K "_law_word") fd := by
  obtain ⟨h, X, G, c⟩ := F
  exact c.t.d.def_ 21 (d := d__law_word) rfl
theorem fd__law_next (F : Fx w K mg) : ∃ fd, FunD K "_law_next" "_law_next" (defArgs (top 43)) (defBody (top 43)) (defScope (top 43)) (d__law_next.dvs K) (d__law_next.kws K) (He.ga K "_law_next") fd := by
  obtain ⟨h, X, G, c⟩ := F
  exact c.t.d.def_ 22 (d := d__law_next) rfl
theorem fd__law_ahead (F : Fx w K mg) : ∃ fd, FunD K "_law_ahead" "_law_ahead" (defArgs (top 41)) (defBody (top 41)) (defScope (top 41)) (d__law_ahead.dvs K) (d__law_ahead.kws K) (He.ga K "_law_ahead") fd := by
  obtain ⟨h, X, G, c⟩ := F
  exact c.t.d.def_ 23 (d := d__law_ahead) rfl
theorem fd__law_sides (F : Fx w K mg) : ∃ fd, FunD K "_law_sides" "_law_sides" (defArgs (top 37)) (defBody (top 37)) (defScope (top 37)) (d__law_sides.dvs K) (d__law_sides.kws K) (He.ga K "_law_sides") fd := by
  obtain ⟨h, X, G, c⟩ := F
  exact c.t.d.def_ 24 (d := d__law_sides) rfl
theorem fd__law_kinds (F : Fx w K mg) : ∃ fd, FunD K "_law_kinds" "_law_kinds" (defArgs (top 38)) (defBody (top 38)) (defScope (top 38)) (d__law_kinds.dvs K) (d__law_kinds.kws K) (He.ga K "_law_kinds") fd := by
  obtain ⟨h, X, G, c⟩ := F
  exact c.t.d.def_ 25 (d := d__law_kinds) rfl
theorem fd__law_way (F : Fx w K mg) : ∃ fd, FunD K "_law_way" "_law_way" (defArgs (top 39)) (defBody (top 39)) (defScope (top 39)) (d__law_way.dvs K) (d__law_way.kws K) (He.ga K "_law_way") fd := by
  obtain ⟨h, X, G, c⟩ := F
  exact c.t.d.def_ 26 (d := d__law_way) rfl
theorem fd__law_ways (F : Fx w K mg) : ∃ fd, FunD K "_law_ways" "_law_ways" (defArgs (top 40)) (defBody (top 40)) (defScope (top 40)) (d__law_ways.dvs K) (d__law_ways.kws K) (He.ga K "_law_ways") fd := by
  obtain ⟨h, X, G, c⟩ := F
  exact c.t.d.def_ 27 (d := d__law_ways) rfl
theorem fd__law_shown (F : Fx w K mg) : ∃ fd, FunD K "_law_shown" "_law_shown" (defArgs (top 42)) (defBody (top 42)) (defScope (top 42)) (d__law_shown.dvs K) (d__law_shown.kws K) (He.ga K "_law_shown") fd := by
  obtain ⟨h, X, G, c⟩ := F
  exact c.t.d.def_ 28 (d := d__law_shown) rfl
theorem fd__law_neutral (F : Fx w K mg) : ∃ fd, FunD K "_law_neutral" "_law_neutral" (defArgs (top 44)) (defBody (top 44)) (defScope (top 44)) (d__law_neutral.dvs K) (d__law_neutral.kws K) (He.ga K "_law_neutral") fd := by
  obtain ⟨h, X, G, c⟩ := F
  exact c.t.d.def_ 29 (d := d__law_neutral) rfl
theorem fd__law_waiting (F : Fx w K mg) : ∃ fd, FunD K "_law_waiting" "_law_waiting" (defArgs (top 45)) (defBody (top 45)) (defScope (top 45)) (d__law_waiting.dvs K) (d__law_waiting.kws K) (He.ga K "_law_waiting") fd := by
  obtain ⟨h, X, G, c⟩ := F
  exact c.t.d.def_ 30 (d := d__law_waiting) rfl
theorem fd_law (F : Fx w K mg) : ∃ fd, FunD K "law" "law" (defArgs (top 46)) (defBody (top 46)) (defScope (top 46)) (d_law.dvs K) (d_law.kws K) (He.ga K "law") fd := by
  obtain ⟨h, X, G, c⟩ := F
  exact c.t.d.def_ 31 (d := d_law) rfl
end
section
variable {P : Program} {w : World} {K : PySem.W.Frag} {mg : Str → Option Value} {base : Heap}
def N__law_bag : List Str := ["_law_script", "_law_at", "_law_cell", "_law_mixed", "_law_k", "_law_each"]
abbrev b__law_bag_0 : MS := (sDrop (sSet 3 (mOp2 modD (mBi intD [(mOp2 addD (mOp2 addD (mOp2 addD (mOp2 mulD (mVar 3) (mC (.int 39373))) (mOp2 modD (mBi intD [(mVar 5)]) (mC (.int 2147483399)))) (mOp2 mulD (mC (.int 211)) (mVar 4))) (mC (.int 5)))]) (mC (.int 2147483563)))) [4, 5])
def m__law_bag : MS := (sSeq (sSet 2 (mIf (mTB (mOp2 ltD (mVar 1) (mBi lenD [(mVar 0)]))) (mOp2 ixD (mVar 0) (mVar 1)) (mC (.int 0))))
  (sSeq (sSet 3 (mOp2 addD (mOp2 mulD (mC (.int 7193)) (mVar 1)) (mC (.int 401))))
  (sSeq (sDrop (sFor (.tp [(.nm 4), (.nm 5)]) (mIt itEL (mSlL slL (mVar 0) none (some (mC (.int 50))))) b__law_bag_0) [4, 5])
  (sRet (mLst [(mIf (mTB (mOp2 geD (mBi absD [(mVar 2)]) (mOp2 powD (mC (.int 10)) (mC (.int 18))))) (mBi absD [(mVar 2)]) (mC (.int 0))), (mVar 3)])))))
def Z__law_bag : Fn := runF (fun i => [0, 1].contains i) 2 4 m__law_bag
theorem sc__law_bag : FnScope N__law_bag ["_law_script", "_law_at"] (defScope (top 31)) := ⟨rfl, rfl, rfl, by decide +kernel, rfl, by decide +kernel, by decide +kernel⟩
theorem o__law_bag (F : Fx w K mg) (B : Bx K mg base) : ∃ fd, FunD K "_law_bag" "_law_bag" (defArgs (top 31)) (defBody (top 31)) (defScope (top 31)) (d__law_bag.dvs K) (d__law_bag.kws K) (He.ga K "_law_bag") fd ∧ FO P w K mg base (tb K) 1 (He.ga K "_law_bag") fd ["_law_script", "_law_at"] Z__law_bag 2 := by
  obtain ⟨fd, hf⟩ := fd__law_bag F
  refine ⟨fd, hf, fn_F hf sc__law_bag (fun i => [0, 1].contains i) rfl rfl _ (fun _ _ => rfl) fun cdv A outer s H E hc hci hr hu => ?_⟩
  have cdE := code_of hf hc hci
  have tk : Takes (cxOf (L2.CX P w) P w K mg base N__law_bag "_law_bag" (defScope (top 31)) (He.ga K "_law_bag") cdv A outer s H E) (fun cls d _ H => E cls d H) := takes_of rfl rfl rfl rfl
  have nd : N__law_bag.Nodup := sc__law_bag.nd
  have h52 := un52 hr
  have h9 : ∀ d v H, ¬ (tb K).ex 9 d v H := no9
  exact (sss_cons (ss_set (i := 2) rfl nd rfl (by first | exact Or.inl rfl | exact Or.inr rfl) (se_if (sb_cmp op_ltV v_lt (se_var (pv 1)) (se_bi call_lenV b_len rfl (n_len F) boot_len (sa_cons (se_var (pv 0)) sa_nil)) (nomark _)) (se_ix ix_seq v_ix (se_var (pv 0)) (se_var (pv 1)) (fun _ _ => rfl)) se_int))
  (sss_cons (ss_set (i := 3) rfl nd rfl (by first | exact Or.inl rfl | exact Or.inr rfl) (se_op op_addV v_add (se_op op_mul v_mul se_int (se_var (pv 1))) se_int))
  (sss_cons (ss_drop [4, 5] (ss_for (passes_of rfl) rfl (si_enumL rfl (n_enumerate F) (se_slL sl_list sl_L (se_var (pv 0)) spt_none (spt_some se_int))) (sg_tup rfl (sgs_cons (sg_name (i := 4) rfl nd rfl (by first | exact Or.inl rfl | exact Or.inr rfl)) (sgs_cons (sg_name (i := 5) rfl nd rfl (by first | exact Or.inl rfl | exact Or.inr rfl)) sgs_nil))) (sss_drop [4, 5] (sss_one (ss_set (i := 3) rfl nd rfl (by first | exact Or.inl rfl | exact Or.inr rfl) (se_op op_mod v_mod (se_ti call_int1 b_int rfl (n_int F) boot_int (sa_cons (se_op op_addV v_add (se_op op_addV v_add (se_op op_addV v_add (se_op op_mul v_mul (se_var (pv 3)) se_int) (se_op op_mod v_mod (se_ti call_int1 b_int rfl (n_int F) boot_int (sa_cons (se_var (pv 5)) sa_nil)) se_int)) (se_op op_mul v_mul se_int (se_var (pv 4)))) se_int) sa_nil)) se_int))))))
  (sss_one (ss_ret (se_lst (sd_cons (se_if (sb_cmp op_ge v_ge (se_bi call_abs b_abs rfl (n_abs F) boot_abs (sa_cons (se_var (pv 2)) sa_nil)) (se_op op_pow v_pow se_int se_int) (nomark _)) (se_bi call_abs b_abs rfl (n_abs F) boot_abs (sa_cons (se_var (pv 2)) sa_nil)) se_int) (sd_cons (se_var (pv 3)) sd_nil))))))))
theorem G__law_bag (F : Fx w K mg) (B : Bx K mg base) : FnG P w K mg base (tb K) "_law_bag" 1 2 Z__law_bag [] := by
  obtain ⟨fd, hf, h⟩ := o__law_bag (P := P) (base := base) F B
  exact ⟨_, fd, _, [], [], h, g__law_bag F, hf.kp, FunD.bindsN hf fun _ _ _ _ _ _ us hl => match us, hl with | [_, _], _ => rfl, .nil, fun _ => rfl⟩
def N__law_take : List Str := ["_law_bag_here", "_law_many", "_law_digit"]
def m__law_take : MS := (sSeq (sDrop (sIf (mTB (mOp2 gtD (mOp2 ixD (mVar 0) (mC (.int 0))) (mC (.int 0)))) (sSeq (sSet 2 (mOp2 modD (mBi intD [(mOp2 ixD (mVar 0) (mC (.int 0)))]) (mVar 1)))
  (sSeq (sSto 0 (mC (.int 0)) (mOp2 divD (mOp2 ixD (mVar 0) (mC (.int 0))) (mVar 1)))
  (sRet (mVar 2)))) sPass) [2])
  (sSeq (sSto 0 (mC (.int 1)) (mOp2 modD (mBi intD [(mOp2 addD (mOp2 mulD (mOp2 ixD (mVar 0) (mC (.int 1))) (mC (.int 48271))) (mC (.int 1871)))]) (mC (.int 2147483399))))
  (sRet (mOp2 modD (mOp2 divD (mOp2 modD (mBi intD [(mOp2 mulD (mOp2 divD (mOp2 ixD (mVar 0) (mC (.int 1))) (mC (.int 13))) (mC (.int 69621)))]) (mC (.int 2147483477))) (mC (.int 32))) (mVar 1)))))
def Z__law_take : Fn := runF (fun i => [0, 1].contains i) 2 1 m__law_take
theorem sc__law_take : FnScope N__law_take ["_law_bag_here", "_law_many"] (defScope (top 32)) := ⟨rfl, rfl, rfl, by decide +kernel, rfl, by decide +kernel, by decide +kernel⟩
theorem o__law_take (F : Fx w K mg) (B : Bx K mg base) : ∃ fd, FunD K "_law_take" "_law_take" (defArgs (top 32)) (defBody (top 32)) (defScope (top 32)) (d__law_take.dvs K) (d__law_take.kws K) (He.ga K "_law_take") fd ∧ FO P w K mg base (tb K) 1 (He.ga K "_law_take") fd ["_law_bag_here", "_law_many"] Z__law_take 2 := by
  obtain ⟨fd, hf⟩ := fd__law_take F
  refine ⟨fd, hf, fn_F hf sc__law_take (fun i => [0, 1].contains i) rfl rfl _ (fun _ _ => rfl) fun cdv A outer s H E hc hci hr hu => ?_⟩
  have cdE := code_of hf hc hci
  have tk : Takes (cxOf (L2.CX P w) P w K mg base N__law_take "_law_take" (defScope (top 32)) (He.ga K "_law_take") cdv A outer s H E) (fun cls d _ H => E cls d H) := takes_of rfl rfl rfl rfl
  have nd : N__law_take.Nodup := sc__law_take.nd
  have h52 := un52 hr
  have h9 : ∀ d v H, ¬ (tb K).ex 9 d v H := no9
  exact (sss_cons (ss_drop [2] (ss_if (sb_cmp op_gtV v_gt (se_ix ix_seq v_ix (se_var (pv 0)) se_int (fun _ _ => rfl)) se_int (nomark _)) (sss_cons (ss_set (i := 2) rfl nd rfl (by first | exact Or.inl rfl | exact Or.inr rfl) (se_op op_mod v_mod (se_ti call_int1 b_int rfl (n_int F) boot_int (sa_cons (se_ix ix_seq v_ix (se_var (pv 0)) se_int (fun _ _ => rfl)) sa_nil)) (se_var (pv 1))))
  (sss_cons (ss_sto (i := 0) (pv 0) se_int (se_op op_fdiv v_div (se_ix ix_seq v_ix (se_var (pv 0)) se_int (fun _ _ => rfl)) (se_var (pv 1))) (fun _ => rfl))
  (sss_one (ss_ret (se_var (pv 2)))))) sss_nil))
  (sss_cons (ss_sto (i := 0) (pv 0) se_int (se_op op_mod v_mod (se_ti call_int1 b_int rfl (n_int F) boot_int (sa_cons (se_op op_addV v_add (se_op op_mul v_mul (se_ix ix_seq v_ix (se_var (pv 0)) se_int (fun _ _ => rfl)) se_int) se_int) sa_nil)) se_int) (fun _ => rfl))
  (sss_one (ss_ret (se_op op_mod v_mod (se_op op_fdiv v_div (se_op op_mod v_mod (se_ti call_int1 b_int rfl (n_int F) boot_int (sa_cons (se_op op_mul v_mul (se_op op_fdiv v_div (se_ix ix_seq v_ix (se_var (pv 0)) se_int (fun _ _ => rfl)) se_int) se_int) sa_nil)) se_int) se_int) (se_var (pv 1)))))))
theorem G__law_take (F : Fx w K mg) (B : Bx K mg base) : FnG P w K mg base (tb K) "_law_take" 1 2 Z__law_take [] := by
  obtain ⟨fd, hf, h⟩ := o__law_take (P := P) (base := base) F B
  exact ⟨_, fd, _, [], [], h, g__law_take F, hf.kp, FunD.bindsN hf fun _ _ _ _ _ _ us hl => match us, hl with | [_, _], _ => rfl, .nil, fun _ => rfl⟩
def N__law_of : List Str := ["_law_bag_here", "_law_some"]
def m__law_of : MS := (sRet (mOp2 ixD (mVar 1) (mCall Z__law_take [.bo, .lk] [] [(mVar 0), (mBi lenD [(mVar 1)])])))
def Z__law_of : Fn := runF (fun i => [0, 1].contains i) 2 0 m__law_of
theorem sc__law_of : FnScope N__law_of ["_law_bag_here", "_law_some"] (defScope (top 33)) := ⟨rfl, rfl, rfl, by decide +kernel, rfl, by decide +kernel, by decide +kernel⟩
theorem o__law_of (F : Fx w K mg) (B : Bx K mg base) : ∃ fd, FunD K "_law_of" "_law_of" (defArgs (top 33)) (defBody (top 33)) (defScope (top 33)) (d__law_of.dvs K) (d__law_of.kws K) (He.ga K "_law_of") fd ∧ FO P w K mg base (tb K) 2 (He.ga K "_law_of") fd ["_law_bag_here", "_law_some"] Z__law_of 2 := by
  obtain ⟨fd, hf⟩ := fd__law_of F
  refine ⟨fd, hf, fn_F hf sc__law_of (fun i => [0, 1].contains i) rfl rfl _ (fun _ _ => rfl) fun cdv A outer s H E hc hci hr hu => ?_⟩
  have cdE := code_of hf hc hci
  have tk : Takes (cxOf (L2.CX P w) P w K mg base N__law_of "_law_of" (defScope (top 33)) (He.ga K "_law_of") cdv A outer s H E) (fun cls d _ H => E cls d H) := takes_of rfl rfl rfl rfl
  have nd : N__law_of.Nodup := sc__law_of.nd
  have h52 := un52 hr
  have h9 : ∀ d v H, ¬ (tb K).ex 9 d v H := no9
  exact (sss_one (ss_ret (se_ix ix_seq v_ix (se_var (pv 1)) (se_fn (G__law_take F B) hr hu tk [.bo, .lk] (sa_cons (se_var (pv 0)) (sa_cons (se_bi call_lenV b_len rfl (n_len F) boot_len (sa_cons (se_var (pv 1)) sa_nil)) sa_nil))) (fun _ _ => rfl))))
theorem G__law_of (F : Fx w K mg) (B : Bx K mg base) : FnG P w K mg base (tb K) "_law_of" 2 2 Z__law_of [] := by
  obtain ⟨fd, hf, h⟩ := o__law_of (P := P) (base := base) F B
  exact ⟨_, fd, _, [], [], h, g__law_of F, hf.kp, FunD.bindsN hf fun _ _ _ _ _ _ us hl => match us, hl with | [_, _], _ => rfl, .nil, fun _ => rfl⟩
def N__law_character : List Str := ["_law_bag_here", "_law_word_here"]
def m__law_character : MS := (sRet (mCall Z__law_of [.bo, .lk] [] [(mVar 0), (mOp2 getKD (mDct [(.s [76], (mC (.str [97, 98, 120, 122, 43]))), (.s [82], (mC (.str [65, 66, 77, 42]))), (.s [65], (mC (.str [78, 81, 90]))), (.s [68], (mC (.str [48, 49, 55, 57]))), (.s [83], (mC (.str [44, 46, 58]))), (.s [84], (mC (.str [36, 35]))), (.s [78], (mC (.str [32, 33, 45, 40, 93])))]) (mVar 1))]))
def Z__law_character : Fn := runF (fun i => [0, 1].contains i) 2 0 m__law_character
theorem sc__law_character : FnScope N__law_character ["_law_bag_here", "_law_word_here"] (defScope (top 34)) := ⟨rfl, rfl, rfl, by decide +kernel, rfl, by decide +kernel, by decide +kernel⟩
theorem o__law_character (F : Fx w K mg) (B : Bx K mg base) : ∃ fd, FunD K "_law_character" "_law_character" (defArgs (top 34)) (defBody (top 34)) (defScope (top 34)) (d__law_character.dvs K) (d__law_character.kws K) (He.ga K "_law_character") fd ∧ FO P w K mg base (tb K) 3 (He.ga K "_law_character") fd ["_law_bag_here", "_law_word_here"] Z__law_character 2 := by
  obtain ⟨fd, hf⟩ := fd__law_character F
  refine ⟨fd, hf, fn_F hf sc__law_character (fun i => [0, 1].contains i) rfl rfl _ (fun _ _ => rfl) fun cdv A outer s H E hc hci hr hu => ?_⟩
  have cdE := code_of hf hc hci
  have tk : Takes (cxOf (L2.CX P w) P w K mg base N__law_character "_law_character" (defScope (top 34)) (He.ga K "_law_character") cdv A outer s H E) (fun cls d _ H => E cls d H) := takes_of rfl rfl rfl rfl
  have nd : N__law_character.Nodup := sc__law_character.nd
  have h52 := un52 hr
  have h9 : ∀ d v H, ¬ (tb K).ex 9 d v H := no9
  exact (sss_one (ss_ret (se_fn (G__law_of F B) hr hu tk [.bo, .lk] (sa_cons (se_var (pv 0)) (sa_cons (se_dget (u1 hr) (se_dct (sdc_cons (k := .s [76]) pe_str (se_str (l := [97, 98, 120, 122, 43])) (sdc_cons (k := .s [82]) pe_str (se_str (l := [65, 66, 77, 42])) (sdc_cons (k := .s [65]) pe_str (se_str (l := [78, 81, 90])) (sdc_cons (k := .s [68]) pe_str (se_str (l := [48, 49, 55, 57])) (sdc_cons (k := .s [83]) pe_str (se_str (l := [44, 46, 58])) (sdc_cons (k := .s [84]) pe_str (se_str (l := [36, 35])) (sdc_cons (k := .s [78]) pe_str (se_str (l := [32, 33, 45, 40, 93])) sdc_nil)))))))) (se_var (pv 1)) (fun _ _ => rfl)) sa_nil)))))
theorem G__law_character (F : Fx w K mg) (B : Bx K mg base) : FnG P w K mg base (tb K) "_law_character" 3 2 Z__law_character [] := by
  obtain ⟨fd, hf, h⟩ := o__law_character (P := P) (base := base) F B
  exact ⟨_, fd, _, [], [], h, g__law_character F, hf.kp, FunD.bindsN hf fun _ _ _ _ _ _ us hl => match us, hl with | [_, _], _ => rfl, .nil, fun _ => rfl⟩
def N__law_text : List Str := ["_law_bag_here", "_law_words", "_law_most", "_law_k"]
def m__law_text : MS := (sRet (mSm1 (fun x y => joinD (.str x) y) (mC (.str [])) (mLc [3] (.nm 3) (mIt itR1 (mCall Z__law_take [.bo, .lk] [] [(mVar 0), (mOp2 addD (mVar 2) (mC (.int 1)))])) mYes (mCall Z__law_character [.bo, .lk] [] [(mVar 0), (mCall Z__law_of [.bo, .lk] [] [(mVar 0), (mVar 1)])]))))
def Z__law_text : Fn := runF (fun i => [0, 1, 2].contains i) 3 1 m__law_text
theorem sc__law_text : FnScope N__law_text ["_law_bag_here", "_law_words", "_law_most"] (defScope (top 35)) := ⟨rfl, rfl, rfl, by decide +kernel, rfl, by decide +kernel, by decide +kernel⟩
theorem o__law_text (F : Fx w K mg) (B : Bx K mg base) : ∃ fd, FunD K "_law_text" "_law_text" (defArgs (top 35)) (defBody (top 35)) (defScope (top 35)) (d__law_text.dvs K) (d__law_text.kws K) (He.ga K "_law_text") fd ∧ FO P w K mg base (tb K) 4 (He.ga K "_law_text") fd ["_law_bag_here", "_law_words", "_law_most"] Z__law_text 3 := by
  obtain ⟨fd, hf⟩ := fd__law_text F
  refine ⟨fd, hf, fn_F hf sc__law_text (fun i => [0, 1, 2].contains i) rfl rfl _ (fun _ _ => rfl) fun cdv A outer s H E hc hci hr hu => ?_⟩
  have cdE := code_of hf hc hci
  have tk : Takes (cxOf (L2.CX P w) P w K mg base N__law_text "_law_text" (defScope (top 35)) (He.ga K "_law_text") cdv A outer s H E) (fun cls d _ H => E cls d H) := takes_of rfl rfl rfl rfl
  have nd : N__law_text.Nodup := sc__law_text.nd
  have h52 := un52 hr
  have h9 : ∀ d v H, ¬ (tb K).ex 9 d v H := no9
  exact (sss_one (ss_ret (se_sm1 PySem.F.slot_str_join PySem.F.type_str_join mt_join sm_join (se_str (l := [])) (se_lc (own := [("_law_k", 3)]) rfl nd (si_rng1 rfl (n_range F) (se_fn (G__law_take F B) hr hu tk [.bo, .lk] (sa_cons (se_var (pv 0)) (sa_cons (se_op op_addV v_add (se_var (pv 2)) se_int) sa_nil)))) (blkOk_by (own := [("_law_k", 3)]) (N := N__law_text) (sc := defScope (top 35)) (by decide +kernel)) (fun _ _ _ _ _ => (sg_name (i := 3) rfl nd rfl (by first | exact Or.inl rfl | exact Or.inr rfl))) (fun _ _ _ _ _ => sts_nil) (fun _ _ _ _ _ => (se_fn (G__law_character F B) hr hu no_takes [.bo, .lk] (sa_cons (se_var (pv 0)) (sa_cons (se_fn (G__law_of F B) hr hu no_takes [.bo, .lk] (sa_cons (se_var (pv 0)) (sa_cons (se_var (pv 1)) sa_nil))) sa_nil))))))))
theorem G__law_text (F : Fx w K mg) (B : Bx K mg base) : FnG P w K mg base (tb K) "_law_text" 4 3 Z__law_text [] := by
  obtain ⟨fd, hf, h⟩ := o__law_text (P := P) (base := base) F B
  exact ⟨_, fd, _, [], [], h, g__law_text F, hf.kp, FunD.bindsN hf fun _ _ _ _ _ _ us hl => match us, hl with | [_, _, _], _ => rfl, .nil, fun _ => rfl⟩
def N_first_unknown : List Str := ["text", "unknown", "index", "sign"]
def m_first_unknown : MS := (sSeq (sSet 1 (mLc [2, 3] (.tp [(.nm 2), (.nm 3)]) (mIt itES (mVar 0)) (mTB (mOp2 ninD (mVar 3) (mC (.str c_KNOWN)))) (mVar 2)))
  (sRet (mIf (mTB (mOp2 neD (mVar 1) (mLst []))) (mOp2 ixD (mVar 1) (mC (.int 0))) (mC .non))))
def Z_first_unknown : Fn := runF (fun i => [0].contains i) 1 3 m_first_unknown
theorem sc_first_unknown : FnScope N_first_unknown ["text"] (defScope (top 11)) := ⟨rfl, rfl, rfl, by decide +kernel, rfl, by decide +kernel, by decide +kernel⟩
theorem o_first_unknown (F : Fx w K mg) (B : Bx K mg base) : ∃ fd, FunD K "first_unknown" "first_unknown" (defArgs (top 11)) (defBody (top 11)) (defScope (top 11)) (d_first_unknown.dvs K) (d_first_unknown.kws K) (He.ga K "first_unknown") fd ∧ FO P w K mg base (tb K) 1 (He.ga K "first_unknown") fd ["text"] Z_first_unknown 1 := by
  obtain ⟨fd, hf⟩ := fd_first_unknown F
  refine ⟨fd, hf, fn_F hf sc_first_unknown (fun i => [0].contains i) rfl rfl _ (fun _ _ => rfl) fun cdv A outer s H E hc hci hr hu => ?_⟩
  have cdE := code_of hf hc hci
  have tk : Takes (cxOf (L2.CX P w) P w K mg base N_first_unknown "first_unknown" (defScope (top 11)) (He.ga K "first_unknown") cdv A outer s H E) (fun cls d _ H => E cls d H) := takes_of rfl rfl rfl rfl
  have nd : N_first_unknown.Nodup := sc_first_unknown.nd
  have h52 := un52 hr
  have h9 : ∀ d v H, ¬ (tb K).ex 9 d v H := no9
  exact (sss_cons (ss_setLc (i := 1) (own := [("index", 2), ("sign", 3)]) rfl rfl nd rfl rfl (sw_true rfl rfl rfl (by decide +kernel)) (si_enumS rfl (n_enumerate F) (se_var (pv 0))) (blkOk_by (own := [("index", 2), ("sign", 3)]) (N := N_first_unknown) (sc := defScope (top 11)) (by decide +kernel)) (fun _ _ _ _ _ => (sg_tup rfl (sgs_cons (sg_name (i := 2) rfl nd rfl (by first | exact Or.inl rfl | exact Or.inr rfl)) (sgs_cons (sg_name (i := 3) rfl nd rfl (by first | exact Or.inl rfl | exact Or.inr rfl)) sgs_nil)))) (fun _ _ _ _ _ => (sts_one (sb_cmp (op_notInV hr.units) v_notIn (se_var (pv 3)) (se_gstr rfl (v_KNOWN F)) (by with_unfolding_all rfl)))) (fun _ _ _ _ _ => (se_var (pv 2))))
  (sss_one (ss_ret (se_if (sb_cmp (op_neP hr.units) v_ne (se_var (pv 1)) (se_lst sd_nil) (nomark _)) (se_ix ix_seq v_ix (se_var (pv 1)) se_int (fun _ _ => rfl)) se_non))))
theorem G_first_unknown (F : Fx w K mg) (B : Bx K mg base) : FnG P w K mg base (tb K) "first_unknown" 1 1 Z_first_unknown [] := by
  obtain ⟨fd, hf, h⟩ := o_first_unknown (P := P) (base := base) F B
  exact ⟨_, fd, _, [], [], h, g_first_unknown F, hf.kp, FunD.bindsN hf fun _ _ _ _ _ _ us hl => match us, hl with | [_], _ => rfl, .nil, fun _ => rfl⟩
def N_overfull : List Str := ["text", "most", "opened", "index", "character"]
abbrev b_overfull_0 : MS := (sDrop (sIf (mTB (mOp2 inD (mVar 4) (mC (.str c_BEGINS)))) (sSeq (sIf (mTB (mOp2 eqD (mVar 2) (mVar 1))) (sRet (mVar 3)) sPass)
  (sAug 2 addI (mC (.int 1)))) (sIf (mTB (mOp2 eqD (mVar 4) (mC (.str c_END)))) (sSet 2 (mBi max2D [(mC (.int 0)), (mOp2 subD (mVar 2) (mC (.int 1)))])) sPass)) [3, 4])
def m_overfull : MS := (sSeq (sSet 2 (mC (.int 0)))
  (sSeq (sDrop (sFor (.tp [(.nm 3), (.nm 4)]) (mIt itES (mVar 0)) b_overfull_0) [2, 3, 4])
  (sRet (mC .non))))
def Z_overfull : Fn := runF (fun i => [0, 1].contains i) 2 3 m_overfull
theorem sc_overfull : FnScope N_overfull ["text", "most"] (defScope (top 10)) := ⟨rfl, rfl, rfl, by decide +kernel, rfl, by decide +kernel, by decide +kernel⟩
theorem o_overfull (F : Fx w K mg) (B : Bx K mg base) : ∃ fd, FunD K "overfull" "overfull" (defArgs (top 10)) (defBody (top 10)) (defScope (top 10)) (d_overfull.dvs K) (d_overfull.kws K) (He.ga K "overfull") fd ∧ FO P w K mg base (tb K) 1 (He.ga K "overfull") fd ["text", "most"] Z_overfull 2 := by
  obtain ⟨fd, hf⟩ := fd_overfull F
  refine ⟨fd, hf, fn_F hf sc_overfull (fun i => [0, 1].contains i) rfl rfl _ (fun _ _ => rfl) fun cdv A outer s H E hc hci hr hu => ?_⟩
  have cdE := code_of hf hc hci
  have tk : Takes (cxOf (L2.CX P w) P w K mg base N_overfull "overfull" (defScope (top 10)) (He.ga K "overfull") cdv A outer s H E) (fun cls d _ H => E cls d H) := takes_of rfl rfl rfl rfl
  have nd : N_overfull.Nodup := sc_overfull.nd
  have h52 := un52 hr
  have h9 : ∀ d v H, ¬ (tb K).ex 9 d v H := no9
  exact (sss_cons (ss_set (i := 2) rfl nd rfl (by first | exact Or.inl rfl | exact Or.inr rfl) se_int)
  (sss_cons (ss_drop [2, 3, 4] (ss_for (passes_of rfl) rfl (si_enumS rfl (n_enumerate F) (se_var (pv 0))) (sg_tup rfl (sgs_cons (sg_name (i := 3) rfl nd rfl (by first | exact Or.inl rfl | exact Or.inr rfl)) (sgs_cons (sg_name (i := 4) rfl nd rfl (by first | exact Or.inl rfl | exact Or.inr rfl)) sgs_nil))) (sss_drop [3, 4] (sss_one (ss_if (sb_cmp (op_inV hr.units) v_in (se_var (pv 4)) (se_gstr rfl (v_BEGINS F)) (by with_unfolding_all rfl)) (sss_cons (ss_if (sb_cmp (op_eqP hr.units) v_eq (se_var (pv 2)) (se_var (pv 1)) (nomark _)) (sss_one (ss_ret (se_var (pv 3)))) sss_nil)
  (sss_one (ss_aug (i := 2) rfl nd rfl (by first | exact Or.inl rfl | exact Or.inr rfl) se_int ip_add ip_addV))) (sss_one (ss_if (sb_cmp (op_eqP hr.units) v_eq (se_var (pv 4)) (se_gstr rfl (v_END F)) (nomark _)) (sss_one (ss_set (i := 2) rfl nd rfl (by first | exact Or.inl rfl | exact Or.inr rfl) (se_bi (call_max2 rfl) b_max2 rfl (n_max F) boot_max (sa_cons se_int (sa_cons (se_op op_sub v_sub (se_var (pv 2)) se_int) sa_nil))))) sss_nil)))))))
  (sss_one (ss_ret se_non))))
theorem G_overfull (F : Fx w K mg) (B : Bx K mg base) : FnG P w K mg base (tb K) "overfull" 1 2 Z_overfull [] := by
  obtain ⟨fd, hf, h⟩ := o_overfull (P := P) (base := base) F B
  exact ⟨_, fd, _, [], [], h, g_overfull F, hf.kp, FunD.bindsN hf fun _ _ _ _ _ _ us hl => match us, hl with | [_, _], _ => rfl, .nil, fun _ => rfl⟩
def N_first_fault : List Str := ["text", "found", "index"]
def m_first_fault : MS := (sSeq (sSet 1 (mLc [2] (.nm 2) (mIt itT (mTup [(mCall Z_first_unknown [] [] [(mVar 0)]), (mCall Z_overfull [] [] [(mVar 0), (mC (.int 20))])])) (mTB (mOp2 isntD (mVar 2) (mC .non))) (mVar 2)))
  (sRet (mIf (mTB (mOp2 neD (mVar 1) (mLst []))) mBad (mC .non))))
def Z_first_fault : Fn := runF (fun i => [0].contains i) 1 2 m_first_fault
theorem sc_first_fault : FnScope N_first_fault ["text"] (defScope (top 12)) := ⟨rfl, rfl, rfl, by decide +kernel, rfl, by decide +kernel, by decide +kernel⟩
theorem o_first_fault (F : Fx w K mg) (B : Bx K mg base) : ∃ fd, FunD K "first_fault" "first_fault" (defArgs (top 12)) (defBody (top 12)) (defScope (top 12)) (d_first_fault.dvs K) (d_first_fault.kws K) (He.ga K "first_fault") fd ∧ FO P w K mg base (tb K) 2 (He.ga K "first_fault") fd ["text"] Z_first_fault 1 := by
  obtain ⟨fd, hf⟩ := fd_first_fault F
  refine ⟨fd, hf, fn_F hf sc_first_fault (fun i => [0].contains i) rfl rfl _ (fun _ _ => rfl) fun cdv A outer s H E hc hci hr hu => ?_⟩
  have cdE := code_of hf hc hci
  have tk : Takes (cxOf (L2.CX P w) P w K mg base N_first_fault "first_fault" (defScope (top 12)) (He.ga K "first_fault") cdv A outer s H E) (fun cls d _ H => E cls d H) := takes_of rfl rfl rfl rfl
  have nd : N_first_fault.Nodup := sc_first_fault.nd
  have h52 := un52 hr
  have h9 : ∀ d v H, ¬ (tb K).ex 9 d v H := no9
  exact (sss_cons (ss_setLc (i := 1) (own := [("index", 2)]) rfl rfl nd rfl rfl (sw_true rfl rfl rfl (by decide +kernel)) (si_tup (se_tup (sd_cons (se_fn (G_first_unknown F B) hr hu tk [] (sa_cons (se_var (pv 0)) sa_nil)) (sd_cons (se_fn (G_overfull F B) hr hu tk [] (sa_cons (se_var (pv 0)) (sa_cons (se_gint rfl (v_MOST_OPEN F)) sa_nil))) sd_nil)))) (blkOk_by (own := [("index", 2)]) (N := N_first_fault) (sc := defScope (top 12)) (by decide +kernel)) (fun _ _ _ _ _ => (sg_name (i := 2) rfl nd rfl (by first | exact Or.inl rfl | exact Or.inr rfl))) (fun _ _ _ _ _ => (sts_one (sb_cmp op_notN v_notN (se_var (pv 2)) se_non (nomark _)))) (fun _ _ _ _ _ => (se_var (pv 2))))
  (sss_one (ss_ret (se_if (sb_cmp (op_neP hr.units) v_ne (se_var (pv 1)) (se_lst sd_nil) (nomark _)) se_bad se_non))))
theorem G_first_fault (F : Fx w K mg) (B : Bx K mg base) : FnG P w K mg base (tb K) "first_fault" 2 1 Z_first_fault [] := by
  obtain ⟨fd, hf, h⟩ := o_first_fault (P := P) (base := base) F B
  exact ⟨_, fd, _, [], [], h, g_first_fault F, hf.kp, FunD.bindsN hf fun _ _ _ _ _ _ us hl => match us, hl with | [_], _ => rfl, .nil, fun _ => rfl⟩
def N_need_text : List Str := ["text", "known", "strange", "fault", "index", "sign"]
def m_need_text : MS := (sSeq (sIf (mOr (mNot (mTB (mOp1 (isiD .str) (mVar 0)))) (mTB (mOp2 gtD (mBi lenD [(mVar 0)]) (mC (.int 400))))) sBad sPass)
  (sSeq (sSet 2 (mLc [4, 5] (.tp [(.nm 4), (.nm 5)]) (mIt itES (mVar 0)) (mTB (mOp2 ninD (mVar 5) (mVar 1))) (mVar 4)))
  (sSeq (sSet 3 (mIf (mTB (mOp2 neD (mVar 2) (mLst []))) (mCall Z_first_fault [] [] [(mSl slS (mVar 0) none (some (mOp2 ixD (mVar 2) (mC (.int 0)))))]) (mCall Z_first_fault [] [] [(mVar 0)])))
  (sIf (mOr (mTB (mOp2 isntD (mVar 3) (mC .non))) (mTB (mOp2 neD (mVar 2) (mLst [])))) sBad sPass))))
def Z_need_text : Fn := runF (fun i => [0, 1].contains i) 2 4 m_need_text
theorem sc_need_text : FnScope N_need_text ["text", "known"] (defScope (top 13)) := ⟨rfl, rfl, rfl, by decide +kernel, rfl, by decide +kernel, by decide +kernel⟩
theorem o_need_text (F : Fx w K mg) (B : Bx K mg base) : ∃ fd, FunD K "need_text" "need_text" (defArgs (top 13)) (defBody (top 13)) (defScope (top 13)) (d_need_text.dvs K) (d_need_text.kws K) (He.ga K "need_text") fd ∧ FO P w K mg base (tb K) 3 (He.ga K "need_text") fd ["text", "known"] Z_need_text 2 := by
  obtain ⟨fd, hf⟩ := fd_need_text F
  refine ⟨fd, hf, fn_F hf sc_need_text (fun i => [0, 1].contains i) rfl rfl _ (fun _ _ => rfl) fun cdv A outer s H E hc hci hr hu => ?_⟩
  have cdE := code_of hf hc hci
  have tk : Takes (cxOf (L2.CX P w) P w K mg base N_need_text "need_text" (defScope (top 13)) (He.ga K "need_text") cdv A outer s H E) (fun cls d _ H => E cls d H) := takes_of rfl rfl rfl rfl
  have nd : N_need_text.Nodup := sc_need_text.nd
  have h52 := un52 hr
  have h9 : ∀ d v H, ¬ (tb K).ex 9 d v H := no9
  exact (sss_cons (ss_if (sw_pt (sw_or (sb_not (sb_val (se_isi (ty := .str) rfl (n_isinstance F) boot_isinstance rfl (n_str F) bt_str (se_var (pv 0))))) (sw_or1 (sb_cmp op_gtV v_gt (se_bi call_lenV b_len rfl (n_len F) boot_len (sa_cons (se_var (pv 0)) sa_nil)) (se_gint rfl (v_MOST_CHARACTERS F)) (nomark _))))) (sss_one ss_bad) sss_nil)
  (sss_cons (ss_setLc (i := 2) (own := [("index", 4), ("sign", 5)]) rfl rfl nd rfl rfl (sw_true rfl rfl rfl (by decide +kernel)) (si_enumS rfl (n_enumerate F) (se_var (pv 0))) (blkOk_by (own := [("index", 4), ("sign", 5)]) (N := N_need_text) (sc := defScope (top 13)) (by decide +kernel)) (fun _ _ _ _ _ => (sg_tup rfl (sgs_cons (sg_name (i := 4) rfl nd rfl (by first | exact Or.inl rfl | exact Or.inr rfl)) (sgs_cons (sg_name (i := 5) rfl nd rfl (by first | exact Or.inl rfl | exact Or.inr rfl)) sgs_nil)))) (fun _ _ _ _ _ => (sts_one (sb_cmp (op_notInV hr.units) v_notIn (se_var (pv 5)) (se_var (pv 1)) (by with_unfolding_all rfl)))) (fun _ _ _ _ _ => (se_var (pv 4))))
  (sss_cons (ss_set (i := 3) rfl nd rfl (by first | exact Or.inl rfl | exact Or.inr rfl) (se_if (sb_cmp (op_neP hr.units) v_ne (se_var (pv 2)) (se_lst sd_nil) (nomark _)) (se_fn (G_first_fault F B) hr hu tk [] (sa_cons (se_sl sl_str sl_S (se_var (pv 0)) spt_none (spt_some (se_ix ix_seq v_ix (se_var (pv 2)) se_int (fun _ _ => rfl)))) sa_nil)) (se_fn (G_first_fault F B) hr hu tk [] (sa_cons (se_var (pv 0)) sa_nil))))
  (sss_one (ss_if (sw_pt (sw_or (sb_cmp op_notN v_notN (se_var (pv 3)) se_non (nomark _)) (sw_or1 (sb_cmp (op_neP hr.units) v_ne (se_var (pv 2)) (se_lst sd_nil) (nomark _))))) (sss_one ss_bad) sss_nil)))))
theorem G_need_text (F : Fx w K mg) (B : Bx K mg base) : FnG P w K mg base (tb K) "need_text" 3 2 Z_need_text [] := by
  obtain ⟨fd, hf, h⟩ := o_need_text (P := P) (base := base) F B
  obtain ⟨ds, hv, hb⟩ := FunD.binds1 (ps := ["text", "known"]) hf 2 1 (fun z => by cases z) rfl (fun _ _ _ _ _ _ _ us its h1 h2 => match us, its, h1, h2 with | [_, _], [_], _, _ => ⟨_, rfl, rfl⟩)
  exact ⟨_, fd, _, _, ds, h, g_need_text F, hf.kp, hb, hv, fun H => rfl⟩
def N_need_plain : List Str := ["text"]
def m_need_plain : MS := (sExp (mCall Z_need_text [] [] [(mVar 0), (mC (.str c_PLAIN_CHARACTERS))]))
def Z_need_plain : Fn := runF (fun i => [0].contains i) 1 0 m_need_plain
theorem sc_need_plain : FnScope N_need_plain ["text"] (defScope (top 23)) := ⟨rfl, rfl, rfl, by decide +kernel, rfl, by decide +kernel, by decide +kernel⟩
theorem o_need_plain (F : Fx w K mg) (B : Bx K mg base) : ∃ fd, FunD K "need_plain" "need_plain" (defArgs (top 23)) (defBody (top 23)) (defScope (top 23)) (d_need_plain.dvs K) (d_need_plain.kws K) (He.ga K "need_plain") fd ∧ FO P w K mg base (tb K) 4 (He.ga K "need_plain") fd ["text"] Z_need_plain 1 := by
  obtain ⟨fd, hf⟩ := fd_need_plain F
  refine ⟨fd, hf, fn_F hf sc_need_plain (fun i => [0].contains i) rfl rfl _ (fun _ _ => rfl) fun cdv A outer s H E hc hci hr hu => ?_⟩
  have cdE := code_of hf hc hci
  have tk : Takes (cxOf (L2.CX P w) P w K mg base N_need_plain "need_plain" (defScope (top 23)) (He.ga K "need_plain") cdv A outer s H E) (fun cls d _ H => E cls d H) := takes_of rfl rfl rfl rfl
  have nd : N_need_plain.Nodup := sc_need_plain.nd
  have h52 := un52 hr
  have h9 : ∀ d v H, ¬ (tb K).ex 9 d v H := no9
  exact (sss_one (ss_exp (se_fn (G_need_text F B) hr hu tk [] (sa_cons (se_var (pv 0)) (sa_cons (se_gstr rfl (v_PLAIN_CHARACTERS F)) sa_nil)))))
theorem G_need_plain (F : Fx w K mg) (B : Bx K mg base) : FnG P w K mg base (tb K) "need_plain" 4 1 Z_need_plain [] := by
  obtain ⟨fd, hf, h⟩ := o_need_plain (P := P) (base := base) F B
  exact ⟨_, fd, _, [], [], h, g_need_plain F, hf.kp, FunD.bindsN hf fun _ _ _ _ _ _ us hl => match us, hl with | [_], _ => rfl, .nil, fun _ => rfl⟩
def N_direction_of : List Str := ["state"]
def m_direction_of : MS := (sRet (mBi intD [(mOp2 neD (mOp2 ixD (mVar 0) (mC (.int 0))) (mC (.str [76])))]))
def Z_direction_of : Fn := runF (fun i => [0].contains i) 1 0 m_direction_of
theorem sc_direction_of : FnScope N_direction_of ["state"] (defScope (top 20)) := ⟨rfl, rfl, rfl, by decide +kernel, rfl, by decide +kernel, by decide +kernel⟩
theorem o_direction_of (F : Fx w K mg) (B : Bx K mg base) : ∃ fd, FunD K "direction_of" "direction_of" (defArgs (top 20)) (defBody (top 20)) (defScope (top 20)) (d_direction_of.dvs K) (d_direction_of.kws K) (He.ga K "direction_of") fd ∧ FO P w K mg base (tb K) 1 (He.ga K "direction_of") fd ["state"] Z_direction_of 1 := by
  obtain ⟨fd, hf⟩ := fd_direction_of F
  refine ⟨fd, hf, fn_F hf sc_direction_of (fun i => [0].contains i) rfl rfl _ (fun _ _ => rfl) fun cdv A outer s H E hc hci hr hu => ?_⟩
  have cdE := code_of hf hc hci
  have tk : Takes (cxOf (L2.CX P w) P w K mg base N_direction_of "direction_of" (defScope (top 20)) (He.ga K "direction_of") cdv A outer s H E) (fun cls d _ H => E cls d H) := takes_of rfl rfl rfl rfl
  have nd : N_direction_of.Nodup := sc_direction_of.nd
  have h52 := un52 hr
  have h9 : ∀ d v H, ¬ (tb K).ex 9 d v H := no9
  exact (sss_one (ss_ret (se_ti call_int1 b_int rfl (n_int F) boot_int (sa_cons (se_cmp (op_neP hr.units) v_ne (se_ix ix_seq v_ix (se_var (pv 0)) se_int (fun _ _ => rfl)) (se_str (l := [76])) (nomark _)) sa_nil))))
theorem G_direction_of (F : Fx w K mg) (B : Bx K mg base) : FnG P w K mg base (tb K) "direction_of" 1 1 Z_direction_of [] := by
  obtain ⟨fd, hf, h⟩ := o_direction_of (P := P) (base := base) F B
  exact ⟨_, fd, _, [], [], h, g_direction_of F, hf.kp, FunD.bindsN hf fun _ _ _ _ _ _ us hl => match us, hl with | [_], _ => rfl, .nil, fun _ => rfl⟩
def N_next_direction : List Str := ["state", "word"]
def m_next_direction : MS := (sSeq (sIf (mTB (mOp2 inD (mVar 1) (mC (.str c_STRONG)))) (sRet (mBi intD [(mOp2 neD (mVar 1) (mC (.str [76])))])) sPass)
  (sRet (mIf (mTB (mOp2 eqD (mVar 1) (mC (.str [68])))) (mCall Z_direction_of [] [] [(mVar 0)]) (mC .non))))
def Z_next_direction : Fn := runF (fun i => [0, 1].contains i) 2 0 m_next_direction
theorem sc_next_direction : FnScope N_next_direction ["state", "word"] (defScope (top 21)) := ⟨rfl, rfl, rfl, by decide +kernel, rfl, by decide +kernel, by decide +kernel⟩
theorem o_next_direction (F : Fx w K mg) (B : Bx K mg base) : ∃ fd, FunD K "next_direction" "next_direction" (defArgs (top 21)) (defBody (top 21)) (defScope (top 21)) (d_next_direction.dvs K) (d_next_direction.kws K) (He.ga K "next_direction") fd ∧ FO P w K mg base (tb K) 2 (He.ga K "next_direction") fd ["state", "word"] Z_next_direction 2 := by
  obtain ⟨fd, hf⟩ := fd_next_direction F
  refine ⟨fd, hf, fn_F hf sc_next_direction (fun i => [0, 1].contains i) rfl rfl _ (fun _ _ => rfl) fun cdv A outer s H E hc hci hr hu => ?_⟩
  have cdE := code_of hf hc hci
  have tk : Takes (cxOf (L2.CX P w) P w K mg base N_next_direction "next_direction" (defScope (top 21)) (He.ga K "next_direction") cdv A outer s H E) (fun cls d _ H => E cls d H) := takes_of rfl rfl rfl rfl
  have nd : N_next_direction.Nodup := sc_next_direction.nd
  have h52 := un52 hr
  have h9 : ∀ d v H, ¬ (tb K).ex 9 d v H := no9
  exact (sss_cons (ss_if (sb_cmp (op_inV hr.units) v_in (se_var (pv 1)) (se_gstr rfl (v_STRONG F)) (by with_unfolding_all rfl)) (sss_one (ss_ret (se_ti call_int1 b_int rfl (n_int F) boot_int (sa_cons (se_cmp (op_neP hr.units) v_ne (se_var (pv 1)) (se_str (l := [76])) (nomark _)) sa_nil)))) sss_nil)
  (sss_one (ss_ret (se_if (sb_cmp (op_eqP hr.units) v_eq (se_var (pv 1)) (se_str (l := [68])) (nomark _)) (se_fn (G_direction_of F B) hr hu tk [] (sa_cons (se_var (pv 0)) sa_nil)) se_non))))
theorem G_next_direction (F : Fx w K mg) (B : Bx K mg base) : FnG P w K mg base (tb K) "next_direction" 2 2 Z_next_direction [] := by
  obtain ⟨fd, hf, h⟩ := o_next_direction (P := P) (base := base) F B
  exact ⟨_, fd, _, [], [], h, g_next_direction F, hf.kp, FunD.bindsN hf fun _ _ _ _ _ _ us hl => match us, hl with | [_, _], _ => rfl, .nil, fun _ => rfl⟩
def N_fate : List Str := ["letter", "state", "word", "told"]
def m_fate : MS := (sSeq (sIf (mOr (mAnd (mTB (mOp2 eqD (mVar 0) (mC (.str [83])))) (mTB (mOp2 eqD (mVar 2) (mC (.str [68]))))) (mAnd (mTB (mOp2 eqD (mVar 0) (mC (.str [84])))) (mAnd (mTB (mOp2 eqD (mVar 2) (mC (.str [68])))) (mTB (mOp2 neD (mOp2 ixD (mVar 1) (mC (.int 0))) (mC (.str [65]))))))) (sRet (mC (.str c_DIGIT))) sPass)
  (sSeq (sIf (mAnd (mTB (mOp2 eqD (mVar 0) (mC (.str [84])))) (mTB (mOp2 eqD (mVar 2) (mC (.str [84]))))) (sRet (mC (.str [84]))) sPass)
  (sSeq (sSet 3 (mCall Z_next_direction [] [] [(mVar 1), (mVar 2)]))
  (sRet (mIf (mTB (mOp2 isD (mVar 3) (mC .non))) (mC (.str [78])) (mVar 3))))))
def Z_fate : Fn := runF (fun i => [0, 1, 2].contains i) 3 1 m_fate
theorem sc_fate : FnScope N_fate ["letter", "state", "word"] (defScope (top 22)) := ⟨rfl, rfl, rfl, by decide +kernel, rfl, by decide +kernel, by decide +kernel⟩
theorem o_fate (F : Fx w K mg) (B : Bx K mg base) : ∃ fd, FunD K "fate" "fate" (defArgs (top 22)) (defBody (top 22)) (defScope (top 22)) (d_fate.dvs K) (d_fate.kws K) (He.ga K "fate") fd ∧ FO P w K mg base (tb K) 3 (He.ga K "fate") fd ["letter", "state", "word"] Z_fate 3 := by
  obtain ⟨fd, hf⟩ := fd_fate F
  refine ⟨fd, hf, fn_F hf sc_fate (fun i => [0, 1, 2].contains i) rfl rfl _ (fun _ _ => rfl) fun cdv A outer s H E hc hci hr hu => ?_⟩
  have cdE := code_of hf hc hci
  have tk : Takes (cxOf (L2.CX P w) P w K mg base N_fate "fate" (defScope (top 22)) (He.ga K "fate") cdv A outer s H E) (fun cls d _ H => E cls d H) := takes_of rfl rfl rfl rfl
  have nd : N_fate.Nodup := sc_fate.nd
  have h52 := un52 hr
  have h9 : ∀ d v H, ¬ (tb K).ex 9 d v H := no9
  exact (sss_cons (ss_if (sw_pt (sw_or (sw_pt (sw_and (sb_cmp (op_eqP hr.units) v_eq (se_var (pv 0)) (se_str (l := [83])) (nomark _)) (sw_and1 (sb_cmp (op_eqP hr.units) v_eq (se_var (pv 2)) (se_str (l := [68])) (nomark _))))) (sw_or1 (sw_pt (sw_and (sb_cmp (op_eqP hr.units) v_eq (se_var (pv 0)) (se_str (l := [84])) (nomark _)) (sw_and (sb_cmp (op_eqP hr.units) v_eq (se_var (pv 2)) (se_str (l := [68])) (nomark _)) (sw_and1 (sb_cmp (op_neP hr.units) v_ne (se_ix ix_seq v_ix (se_var (pv 1)) se_int (fun _ _ => rfl)) (se_str (l := [65])) (nomark _))))))))) (sss_one (ss_ret (se_gstr rfl (v_DIGIT F)))) sss_nil)
  (sss_cons (ss_if (sw_pt (sw_and (sb_cmp (op_eqP hr.units) v_eq (se_var (pv 0)) (se_str (l := [84])) (nomark _)) (sw_and1 (sb_cmp (op_eqP hr.units) v_eq (se_var (pv 2)) (se_str (l := [84])) (nomark _))))) (sss_one (ss_ret (se_str (l := [84])))) sss_nil)
  (sss_cons (ss_set (i := 3) rfl nd rfl (by first | exact Or.inl rfl | exact Or.inr rfl) (se_fn (G_next_direction F B) hr hu tk [] (sa_cons (se_var (pv 1)) (sa_cons (se_var (pv 2)) sa_nil))))
  (sss_one (ss_ret (se_if (sb_cmp op_isN v_isN (se_var (pv 3)) se_non (nomark _)) (se_str (l := [78])) (se_var (pv 3))))))))
theorem G_fate (F : Fx w K mg) (B : Bx K mg base) : FnG P w K mg base (tb K) "fate" 3 3 Z_fate [] := by
  obtain ⟨fd, hf, h⟩ := o_fate (P := P) (base := base) F B
  exact ⟨_, fd, _, [], [], h, g_fate F, hf.kp, FunD.bindsN hf fun _ _ _ _ _ _ us hl => match us, hl with | [_, _, _], _ => rfl, .nil, fun _ => rfl⟩
def N_next_state : List Str := ["state", "word", "strong", "tail"]
def m_next_state : MS := (sSeq (sUnp (.tp [(.nm 2), (.nm 3)]) (mVar 0))
  (sSeq (sMatch (mVar 1) [((some [[76], [82], [65]]), (sRet (mTup [(mVar 1), (mC (.str []))]))), ((some [[68]]), (sRet (mTup [(mVar 2), (mC (.str c_DIGIT))]))), ((some [[83]]), (sRet (mTup [(mVar 2), (mIf (mTB (mOp2 eqD (mVar 3) (mC (.str c_DIGIT)))) (mC (.str [115, 105, 103, 110])) (mC (.str [])))]))), ((some [[84]]), (sRet (mTup [(mVar 2), (mIf (mAnd (mTB (mOp2 inD (mVar 3) (mTup [(mC (.str c_DIGIT)), (mC (.str [106, 111, 105, 110, 101, 100]))]))) (mTB (mOp2 neD (mVar 2) (mC (.str [65]))))) (mC (.str [106, 111, 105, 110, 101, 100])) (mC (.str [114, 117, 110])))])))])
  (sRet (mTup [(mVar 2), (mC (.str []))]))))
def Z_next_state : Fn := runF (fun i => [0, 1].contains i) 2 2 m_next_state
theorem sc_next_state : FnScope N_next_state ["state", "word"] (defScope (top 19)) := ⟨rfl, rfl, rfl, by decide +kernel, rfl, by decide +kernel, by decide +kernel⟩
theorem o_next_state (F : Fx w K mg) (B : Bx K mg base) : ∃ fd, FunD K "next_state" "next_state" (defArgs (top 19)) (defBody (top 19)) (defScope (top 19)) (d_next_state.dvs K) (d_next_state.kws K) (He.ga K "next_state") fd ∧ FO P w K mg base (tb K) 1 (He.ga K "next_state") fd ["state", "word"] Z_next_state 2 := by
  obtain ⟨fd, hf⟩ := fd_next_state F
  refine ⟨fd, hf, fn_F hf sc_next_state (fun i => [0, 1].contains i) rfl rfl _ (fun _ _ => rfl) fun cdv A outer s H E hc hci hr hu => ?_⟩
  have cdE := code_of hf hc hci
  have tk : Takes (cxOf (L2.CX P w) P w K mg base N_next_state "next_state" (defScope (top 19)) (He.ga K "next_state") cdv A outer s H E) (fun cls d _ H => E cls d H) := takes_of rfl rfl rfl rfl
  have nd : N_next_state.Nodup := sc_next_state.nd
  have h52 := un52 hr
  have h9 : ∀ d v H, ¬ (tb K).ex 9 d v H := no9
  exact (sss_cons (ss_unp (se_var (pv 0)) (sg_tup rfl (sgs_cons (sg_name (i := 2) rfl nd rfl (by first | exact Or.inl rfl | exact Or.inr rfl)) (sgs_cons (sg_name (i := 3) rfl nd rfl (by first | exact Or.inl rfl | exact Or.inr rfl)) sgs_nil))))
  (sss_cons (ss_match (se_var (pv 1)) (sms_cons (ppt_or (ppts_cons (ppt_str (l := [76])) (ppts_cons (ppt_str (l := [82])) (ppts_cons (ppt_str (l := [65])) ppts_nil)))) (sss_one (ss_ret (se_tup (sd_cons (se_var (pv 1)) (sd_cons (se_str (l := [])) sd_nil))))) (sms_cons (ppt_str (l := [68])) (sss_one (ss_ret (se_tup (sd_cons (se_var (pv 2)) (sd_cons (se_gstr rfl (v_DIGIT F)) sd_nil))))) (sms_cons (ppt_str (l := [83])) (sss_one (ss_ret (se_tup (sd_cons (se_var (pv 2)) (sd_cons (se_if (sb_cmp (op_eqP hr.units) v_eq (se_var (pv 3)) (se_gstr rfl (v_DIGIT F)) (nomark _)) (se_str (l := [115, 105, 103, 110])) (se_str (l := []))) sd_nil))))) (sms_cons (ppt_str (l := [84])) (sss_one (ss_ret (se_tup (sd_cons (se_var (pv 2)) (sd_cons (se_if (sw_pt (sw_and (sb_cmp (op_inV hr.units) v_in (se_var (pv 3)) (se_tup (sd_cons (se_gstr rfl (v_DIGIT F)) (sd_cons (se_str (l := [106, 111, 105, 110, 101, 100])) sd_nil))) (by with_unfolding_all rfl)) (sw_and1 (sb_cmp (op_neP hr.units) v_ne (se_var (pv 2)) (se_str (l := [65])) (nomark _))))) (se_str (l := [106, 111, 105, 110, 101, 100])) (se_str (l := [114, 117, 110]))) sd_nil))))) sms_nil)))))
  (sss_one (ss_ret (se_tup (sd_cons (se_var (pv 2)) (sd_cons (se_str (l := [])) sd_nil)))))))
theorem G_next_state (F : Fx w K mg) (B : Bx K mg base) : FnG P w K mg base (tb K) "next_state" 1 2 Z_next_state [] := by
  obtain ⟨fd, hf, h⟩ := o_next_state (P := P) (base := base) F B
  exact ⟨_, fd, _, [], [], h, g_next_state F, hf.kp, FunD.bindsN hf fun _ _ _ _ _ _ us hl => match us, hl with | [_, _], _ => rfl, .nil, fun _ => rfl⟩
def N_fate_within : List Str := ["letter", "state", "words", "word", "told"]
abbrev b_fate_within_0 : MS := (sDrop (sSeq (sSet 4 (mCall Z_fate [] [] [(mVar 0), (mVar 1), (mVar 3)]))
  (sSeq (sIf (mTB (mOp2 ninD (mVar 4) (mTup [(mC (.str [78])), (mC (.str [84]))]))) (sRet (mVar 4)) sPass)
  (sPar [0, 1] [(mVar 4), (mCall Z_next_state [] [] [(mVar 1), (mVar 3)])]))) [3, 4])
def m_fate_within : MS := (sSeq (sDrop (sFor (.nm 3) (mIt itS (mVar 2)) b_fate_within_0) [3, 4])
  (sRet (mVar 0)))
def Z_fate_within : Fn := runF (fun i => [2].contains i) 3 2 m_fate_within
theorem sc_fate_within : FnScope N_fate_within ["letter", "state", "words"] (defScope (top 26)) := ⟨rfl, rfl, rfl, by decide +kernel, rfl, by decide +kernel, by decide +kernel⟩
theorem o_fate_within (F : Fx w K mg) (B : Bx K mg base) : ∃ fd, FunD K "fate_within" "fate_within" (defArgs (top 26)) (defBody (top 26)) (defScope (top 26)) (d_fate_within.dvs K) (d_fate_within.kws K) (He.ga K "fate_within") fd ∧ FO P w K mg base (tb K) 4 (He.ga K "fate_within") fd ["letter", "state", "words"] Z_fate_within 3 := by
  obtain ⟨fd, hf⟩ := fd_fate_within F
  refine ⟨fd, hf, fn_F hf sc_fate_within (fun i => [2].contains i) rfl rfl _ (fun _ _ => rfl) fun cdv A outer s H E hc hci hr hu => ?_⟩
  have cdE := code_of hf hc hci
  have tk : Takes (cxOf (L2.CX P w) P w K mg base N_fate_within "fate_within" (defScope (top 26)) (He.ga K "fate_within") cdv A outer s H E) (fun cls d _ H => E cls d H) := takes_of rfl rfl rfl rfl
  have nd : N_fate_within.Nodup := sc_fate_within.nd
  have h52 := un52 hr
  have h9 : ∀ d v H, ¬ (tb K).ex 9 d v H := no9
  exact (sss_cons (ss_drop [3, 4] (ss_for (passes_of rfl) rfl (si_str (se_var (pv 2))) (sg_name (i := 3) rfl nd rfl (by first | exact Or.inl rfl | exact Or.inr rfl)) (sss_drop [3, 4] (sss_cons (ss_set (i := 4) rfl nd rfl (by first | exact Or.inl rfl | exact Or.inr rfl) (se_fn (G_fate F B) hr hu tk [] (sa_cons (se_var (pv 0)) (sa_cons (se_var (pv 1)) (sa_cons (se_var (pv 3)) sa_nil)))))
  (sss_cons (ss_if (sb_cmp (op_notInV hr.units) v_notIn (se_var (pv 4)) (se_tup (sd_cons (se_str (l := [78])) (sd_cons (se_str (l := [84])) sd_nil))) (by with_unfolding_all rfl)) (sss_one (ss_ret (se_var (pv 4)))) sss_nil)
  (sss_one (ss_par (i := 0) (j := 1) rfl rfl rfl nd rfl rfl (by decide) rfl rfl (so_cons (se_var (pv 4)) (so_cons (se_fn (G_next_state F B) hr hu tk [] (sa_cons (se_var (pv 1)) (sa_cons (se_var (pv 3)) sa_nil))) so_nil)) (by rfl))))))))
  (sss_one (ss_ret (se_var (pv 0)))))
theorem G_fate_within (F : Fx w K mg) (B : Bx K mg base) : FnG P w K mg base (tb K) "fate_within" 4 3 Z_fate_within [] := by
  obtain ⟨fd, hf, h⟩ := o_fate_within (P := P) (base := base) F B
  exact ⟨_, fd, _, [], [], h, g_fate_within F, hf.kp, FunD.bindsN hf fun _ _ _ _ _ _ us hl => match us, hl with | [_, _, _], _ => rfl, .nil, fun _ => rfl⟩
def N_read_in : List Str := ["state", "words", "word"]
abbrev b_read_in_0 : MS := (sDrop (sSet 0 (mCall Z_next_state [] [] [(mVar 0), (mVar 2)])) [2])
def m_read_in : MS := (sSeq (sDrop (sFor (.nm 2) (mIt itS (mVar 1)) b_read_in_0) [2])
  (sRet (mVar 0)))
def Z_read_in : Fn := runF (fun i => [1].contains i) 2 1 m_read_in
theorem sc_read_in : FnScope N_read_in ["state", "words"] (defScope (top 25)) := ⟨rfl, rfl, rfl, by decide +kernel, rfl, by decide +kernel, by decide +kernel⟩
theorem o_read_in (F : Fx w K mg) (B : Bx K mg base) : ∃ fd, FunD K "read_in" "read_in" (defArgs (top 25)) (defBody (top 25)) (defScope (top 25)) (d_read_in.dvs K) (d_read_in.kws K) (He.ga K "read_in") fd ∧ FO P w K mg base (tb K) 2 (He.ga K "read_in") fd ["state", "words"] Z_read_in 2 := by
  obtain ⟨fd, hf⟩ := fd_read_in F
  refine ⟨fd, hf, fn_F hf sc_read_in (fun i => [1].contains i) rfl rfl _ (fun _ _ => rfl) fun cdv A outer s H E hc hci hr hu => ?_⟩
  have cdE := code_of hf hc hci
  have tk : Takes (cxOf (L2.CX P w) P w K mg base N_read_in "read_in" (defScope (top 25)) (He.ga K "read_in") cdv A outer s H E) (fun cls d _ H => E cls d H) := takes_of rfl rfl rfl rfl
  have nd : N_read_in.Nodup := sc_read_in.nd
  have h52 := un52 hr
  have h9 : ∀ d v H, ¬ (tb K).ex 9 d v H := no9
  exact (sss_cons (ss_drop [2] (ss_for (passes_of rfl) rfl (si_str (se_var (pv 1))) (sg_name (i := 2) rfl nd rfl (by first | exact Or.inl rfl | exact Or.inr rfl)) (sss_drop [2] (sss_one (ss_set (i := 0) rfl nd rfl (by first | exact Or.inl rfl | exact Or.inr rfl) (se_fn (G_next_state F B) hr hu tk [] (sa_cons (se_var (pv 0)) (sa_cons (se_var (pv 2)) sa_nil))))))))
  (sss_one (ss_ret (se_var (pv 0)))))
theorem G_read_in (F : Fx w K mg) (B : Bx K mg base) : FnG P w K mg base (tb K) "read_in" 2 2 Z_read_in [] := by
  obtain ⟨fd, hf, h⟩ := o_read_in (P := P) (base := base) F B
  exact ⟨_, fd, _, [], [], h, g_read_in F, hf.kp, FunD.bindsN hf fun _ _ _ _ _ _ us hl => match us, hl with | [_, _], _ => rfl, .nil, fun _ => rfl⟩
def N_entry_of : List Str := ["state", "words", "neutral", "waiting", "told"]
def m_entry_of : MS := (sSeq (sAsg2 (.nm 2) (.nm 3) (mC .non))
  (sSeq (sDrop (sIf (mTB (mOp2 inD (mOp2 ixD (mVar 0) (mC (.int 1))) (mTup [(mC (.str [])), (mC (.str [114, 117, 110]))]))) (sSeq (sSet 4 (mCall Z_fate_within [] [] [(mC (.str [78])), (mVar 0), (mVar 1)]))
  (sSet 2 (mIf (mTB (mOp2 eqD (mVar 4) (mC (.str [78])))) (mC .non) (mVar 4)))) sPass) [4])
  (sSeq (sDrop (sIf (mTB (mOp2 inD (mOp2 ixD (mVar 0) (mC (.int 1))) (mTup [(mC (.str [114, 117, 110])), (mC (.str [115, 105, 103, 110]))]))) (sSeq (sSet 4 (mCall Z_fate_within [] [] [(mIf (mTB (mOp2 eqD (mOp2 ixD (mVar 0) (mC (.int 1))) (mC (.str [115, 105, 103, 110])))) (mC (.str [83])) (mC (.str [84]))), (mVar 0), (mVar 1)]))
  (sSet 3 (mIf (mTB (mOp2 inD (mVar 4) (mTup [(mC (.str [83])), (mC (.str [84]))]))) (mC .non) (mVar 4)))) sPass) [4])
  (sRet (mTup [(mCall Z_read_in [] [] [(mVar 0), (mVar 1)]), (mVar 2), (mVar 3)])))))
def Z_entry_of : Fn := runF (fun i => [0, 1].contains i) 2 3 m_entry_of
theorem sc_entry_of : FnScope N_entry_of ["state", "words"] (defScope (top 27)) := ⟨rfl, rfl, rfl, by decide +kernel, rfl, by decide +kernel, by decide +kernel⟩
theorem o_entry_of (F : Fx w K mg) (B : Bx K mg base) : ∃ fd, FunD K "entry_of" "entry_of" (defArgs (top 27)) (defBody (top 27)) (defScope (top 27)) (d_entry_of.dvs K) (d_entry_of.kws K) (He.ga K "entry_of") fd ∧ FO P w K mg base (tb K) 5 (He.ga K "entry_of") fd ["state", "words"] Z_entry_of 2 := by
  obtain ⟨fd, hf⟩ := fd_entry_of F
  refine ⟨fd, hf, fn_F hf sc_entry_of (fun i => [0, 1].contains i) rfl rfl _ (fun _ _ => rfl) fun cdv A outer s H E hc hci hr hu => ?_⟩
  have cdE := code_of hf hc hci
  have tk : Takes (cxOf (L2.CX P w) P w K mg base N_entry_of "entry_of" (defScope (top 27)) (He.ga K "entry_of") cdv A outer s H E) (fun cls d _ H => E cls d H) := takes_of rfl rfl rfl rfl
  have nd : N_entry_of.Nodup := sc_entry_of.nd
  have h52 := un52 hr
  have h9 : ∀ d v H, ¬ (tb K).ex 9 d v H := no9
  exact (sss_cons (ss_asg2 se_non (sg_name (i := 2) rfl nd rfl (by first | exact Or.inl rfl | exact Or.inr rfl)) (sg_name (i := 3) rfl nd rfl (by first | exact Or.inl rfl | exact Or.inr rfl)))
  (sss_cons (ss_drop [4] (ss_if (sb_cmp (op_inV hr.units) v_in (se_ix ix_seq v_ix (se_var (pv 0)) se_int (fun _ _ => rfl)) (se_tup (sd_cons (se_str (l := [])) (sd_cons (se_str (l := [114, 117, 110])) sd_nil))) (by with_unfolding_all rfl)) (sss_cons (ss_set (i := 4) rfl nd rfl (by first | exact Or.inl rfl | exact Or.inr rfl) (se_fn (G_fate_within F B) hr hu tk [] (sa_cons (se_str (l := [78])) (sa_cons (se_var (pv 0)) (sa_cons (se_var (pv 1)) sa_nil)))))
  (sss_one (ss_set (i := 2) rfl nd rfl (by first | exact Or.inl rfl | exact Or.inr rfl) (se_if (sb_cmp (op_eqP hr.units) v_eq (se_var (pv 4)) (se_str (l := [78])) (nomark _)) se_non (se_var (pv 4)))))) sss_nil))
  (sss_cons (ss_drop [4] (ss_if (sb_cmp (op_inV hr.units) v_in (se_ix ix_seq v_ix (se_var (pv 0)) se_int (fun _ _ => rfl)) (se_tup (sd_cons (se_str (l := [114, 117, 110])) (sd_cons (se_str (l := [115, 105, 103, 110])) sd_nil))) (by with_unfolding_all rfl)) (sss_cons (ss_set (i := 4) rfl nd rfl (by first | exact Or.inl rfl | exact Or.inr rfl) (se_fn (G_fate_within F B) hr hu tk [] (sa_cons (se_if (sb_cmp (op_eqP hr.units) v_eq (se_ix ix_seq v_ix (se_var (pv 0)) se_int (fun _ _ => rfl)) (se_str (l := [115, 105, 103, 110])) (nomark _)) (se_str (l := [83])) (se_str (l := [84]))) (sa_cons (se_var (pv 0)) (sa_cons (se_var (pv 1)) sa_nil)))))
  (sss_one (ss_set (i := 3) rfl nd rfl (by first | exact Or.inl rfl | exact Or.inr rfl) (se_if (sb_cmp (op_inV hr.units) v_in (se_var (pv 4)) (se_tup (sd_cons (se_str (l := [83])) (sd_cons (se_str (l := [84])) sd_nil))) (by with_unfolding_all rfl)) se_non (se_var (pv 4)))))) sss_nil))
  (sss_one (ss_ret (se_tup (sd_cons (se_fn (G_read_in F B) hr hu tk [] (sa_cons (se_var (pv 0)) (sa_cons (se_var (pv 1)) sa_nil))) (sd_cons (se_var (pv 2)) (sd_cons (se_var (pv 3)) sd_nil)))))))))
theorem G_entry_of (F : Fx w K mg) (B : Bx K mg base) : FnG P w K mg base (tb K) "entry_of" 5 2 Z_entry_of [] := by
  obtain ⟨fd, hf, h⟩ := o_entry_of (P := P) (base := base) F B
  exact ⟨_, fd, _, [], [], h, g_entry_of F, hf.kp, FunD.bindsN hf fun _ _ _ _ _ _ us hl => match us, hl with | [_, _], _ => rfl, .nil, fun _ => rfl⟩
def N_states : List Str := ["strong", "tail"]
def m_states : MS := (sRet (mLc2 [0, 1] (.nm 0) (mIt itL (mBl sortSD [(mC (.str c_STRONG))])) mYes [1] (.nm 1) (mIt itT (mC (.tup c_TAILS))) (mTB (mOp2 neD (mTup [(mVar 0), (mVar 1)]) (mTup [(mC (.str [65])), (mC (.str [106, 111, 105, 110, 101, 100]))]))) (mTup [(mVar 0), (mVar 1)])))
def Z_states : Fn := runF (fun i => [].contains i) 0 2 m_states
theorem sc_states : FnScope N_states [] (defScope (top 18)) := ⟨rfl, rfl, rfl, by decide +kernel, rfl, by decide +kernel, by decide +kernel⟩
theorem o_states (F : Fx w K mg) (B : Bx K mg base) : ∃ fd, FunD K "states" "states" (defArgs (top 18)) (defBody (top 18)) (defScope (top 18)) (d_states.dvs K) (d_states.kws K) (He.ga K "states") fd ∧ FO P w K mg base (tb K) 1 (He.ga K "states") fd [] Z_states 0 := by
  obtain ⟨fd, hf⟩ := fd_states F
  refine ⟨fd, hf, fn_F hf sc_states (fun i => [].contains i) rfl rfl _ (fun _ _ => rfl) fun cdv A outer s H E hc hci hr hu => ?_⟩
  have cdE := code_of hf hc hci
  have tk : Takes (cxOf (L2.CX P w) P w K mg base N_states "states" (defScope (top 18)) (He.ga K "states") cdv A outer s H E) (fun cls d _ H => E cls d H) := takes_of rfl rfl rfl rfl
  have nd : N_states.Nodup := sc_states.nd
  have h52 := un52 hr
  have h9 : ∀ d v H, ¬ (tb K).ex 9 d v H := no9
  exact (sss_one (ss_ret (se_lc2 (own := [("strong", 0), ("tail", 1)]) (own1 := [1]) rfl nd (si_list (se_bl' (call_sortStr rfl) b_sortS rfl (n_sorted F) boot_sorted (sa_cons (se_gstr rfl (v_STRONG F)) sa_nil))) (blkOk_by (own := [("strong", 0), ("tail", 1)]) (N := N_states) (sc := defScope (top 18)) (by decide +kernel)) (by decide) (fun _ _ _ _ _ => (sg_name (i := 0) rfl nd rfl (by first | exact Or.inl rfl | exact Or.inr rfl))) (fun _ _ _ _ _ => sts_nil) (fun _ _ _ _ _ => (si_tup (se_gref rfl (g_TAILS F) (t_TAILS F rfl)))) (fun _ _ _ _ _ => (sg_name (i := 1) rfl nd rfl (by first | exact Or.inl rfl | exact Or.inr rfl))) (fun _ _ _ _ _ => (sts_one (sb_cmp (op_neP hr.units) v_ne (se_tup (sd_cons (se_var (pv 0)) (sd_cons (se_var (pv 1)) sd_nil))) (se_tup (sd_cons (se_str (l := [65])) (sd_cons (se_str (l := [106, 111, 105, 110, 101, 100])) sd_nil))) (nomark _)))) (fun _ _ _ _ _ => (se_tup (sd_cons (se_var (pv 0)) (sd_cons (se_var (pv 1)) sd_nil)))))))
theorem G_states (F : Fx w K mg) (B : Bx K mg base) : FnG P w K mg base (tb K) "states" 1 0 Z_states [] := by
  obtain ⟨fd, hf, h⟩ := o_states (P := P) (base := base) F B
  exact ⟨_, fd, _, [], [], h, g_states F, hf.kp, FunD.bindsN hf fun _ _ _ _ _ _ us hl => match us, hl with | [], _ => rfl, .nil, fun _ => rfl⟩
def N_effect_of : List Str := ["words", "state"]
def m_effect_of : MS := (sRet (mLc [1] (.nm 1) (mIt itL (mCall Z_states [] [] [])) mYes (mCall Z_entry_of [] [] [(mVar 1), (mVar 0)])))
def Z_effect_of : Fn := runF (fun i => [0].contains i) 1 1 m_effect_of
theorem sc_effect_of : FnScope N_effect_of ["words"] (defScope (top 28)) := ⟨rfl, rfl, rfl, by decide +kernel, rfl, by decide +kernel, by decide +kernel⟩
theorem o_effect_of (F : Fx w K mg) (B : Bx K mg base) : ∃ fd, FunD K "effect_of" "effect_of" (defArgs (top 28)) (defBody (top 28)) (defScope (top 28)) (d_effect_of.dvs K) (d_effect_of.kws K) (He.ga K "effect_of") fd ∧ FO P w K mg base (tb K) 6 (He.ga K "effect_of") fd ["words"] Z_effect_of 1 := by
  obtain ⟨fd, hf⟩ := fd_effect_of F
  refine ⟨fd, hf, fn_F hf sc_effect_of (fun i => [0].contains i) rfl rfl _ (fun _ _ => rfl) fun cdv A outer s H E hc hci hr hu => ?_⟩
  have cdE := code_of hf hc hci
  have tk : Takes (cxOf (L2.CX P w) P w K mg base N_effect_of "effect_of" (defScope (top 28)) (He.ga K "effect_of") cdv A outer s H E) (fun cls d _ H => E cls d H) := takes_of rfl rfl rfl rfl
  have nd : N_effect_of.Nodup := sc_effect_of.nd
  have h52 := un52 hr
  have h9 : ∀ d v H, ¬ (tb K).ex 9 d v H := no9
  exact (sss_one (ss_ret (se_lc (own := [("state", 1)]) rfl nd (si_list (se_fn0 (G_states F B) hr hu tk)) (blkOk_by (own := [("state", 1)]) (N := N_effect_of) (sc := defScope (top 28)) (by decide +kernel)) (fun _ _ _ _ _ => (sg_name (i := 1) rfl nd rfl (by first | exact Or.inl rfl | exact Or.inr rfl))) (fun _ _ _ _ _ => sts_nil) (fun _ _ _ _ _ => (se_fn (G_entry_of F B) hr hu no_takes [] (sa_cons (se_var (pv 1)) (sa_cons (se_var (pv 0)) sa_nil)))))))
theorem G_effect_of (F : Fx w K mg) (B : Bx K mg base) : FnG P w K mg base (tb K) "effect_of" 6 1 Z_effect_of [] := by
  obtain ⟨fd, hf, h⟩ := o_effect_of (P := P) (base := base) F B
  exact ⟨_, fd, _, [], [], h, g_effect_of F, hf.kp, FunD.bindsN hf fun _ _ _ _ _ _ us hl => match us, hl with | [_], _ => rfl, .nil, fun _ => rfl⟩
def N_words_of : List Str := ["text", "character"]
def m_words_of : MS := (sRet (mSm1 (fun x y => joinD (.str x) y) (mC (.str [])) (mLc [1] (.nm 1) (mIt itS (mVar 0)) mYes (mOp1 (tabD c_KINDS) (mVar 1)))))
def Z_words_of : Fn := runF (fun i => [0].contains i) 1 1 m_words_of
theorem sc_words_of : FnScope N_words_of ["text"] (defScope (top 24)) := ⟨rfl, rfl, rfl, by decide +kernel, rfl, by decide +kernel, by decide +kernel⟩
theorem o_words_of (F : Fx w K mg) (B : Bx K mg base) : ∃ fd, FunD K "words_of" "words_of" (defArgs (top 24)) (defBody (top 24)) (defScope (top 24)) (d_words_of.dvs K) (d_words_of.kws K) (He.ga K "words_of") fd ∧ FO P w K mg base (tb K) 1 (He.ga K "words_of") fd ["text"] Z_words_of 1 := by
  obtain ⟨fd, hf⟩ := fd_words_of F
  refine ⟨fd, hf, fn_F hf sc_words_of (fun i => [0].contains i) rfl rfl _ (fun _ _ => rfl) fun cdv A outer s H E hc hci hr hu => ?_⟩
  have cdE := code_of hf hc hci
  have tk : Takes (cxOf (L2.CX P w) P w K mg base N_words_of "words_of" (defScope (top 24)) (He.ga K "words_of") cdv A outer s H E) (fun cls d _ H => E cls d H) := takes_of rfl rfl rfl rfl
  have nd : N_words_of.Nodup := sc_words_of.nd
  have h52 := un52 hr
  have h9 : ∀ d v H, ¬ (tb K).ex 9 d v H := no9
  exact (sss_one (ss_ret (se_sm1 PySem.F.slot_str_join PySem.F.type_str_join mt_join sm_join (se_str (l := [])) (se_lc (own := [("character", 1)]) rfl nd (si_str (se_var (pv 0))) (blkOk_by (own := [("character", 1)]) (N := N_words_of) (sc := defScope (top 24)) (by decide +kernel)) (fun _ _ _ _ _ => (sg_name (i := 1) rfl nd rfl (by first | exact Or.inl rfl | exact Or.inr rfl))) (fun _ _ _ _ _ => sts_nil) (fun _ _ _ _ _ => (se_tab (pe_glob rfl (g_KINDS F) rfl) (t_KINDS F rfl rfl) (se_var (pv 1)) (fun _ _ => rfl)))))))
theorem G_words_of (F : Fx w K mg) (B : Bx K mg base) : FnG P w K mg base (tb K) "words_of" 1 1 Z_words_of [] := by
  obtain ⟨fd, hf, h⟩ := o_words_of (P := P) (base := base) F B
  exact ⟨_, fd, _, [], [], h, g_words_of F, hf.kp, FunD.bindsN hf fun _ _ _ _ _ _ us hl => match us, hl with | [_], _ => rfl, .nil, fun _ => rfl⟩
def N_effect : List Str := ["text"]
def m_effect : MS := (sSeq (sExp (mCall Z_need_plain [] [] [(mVar 0)]))
  (sRet (mCall Z_effect_of [] [] [(mCall Z_words_of [] [] [(mVar 0)])])))
def Z_effect : Fn := runF (fun i => [0].contains i) 1 0 m_effect
theorem sc_effect : FnScope N_effect ["text"] (defScope (top 29)) := ⟨rfl, rfl, rfl, by decide +kernel, rfl, by decide +kernel, by decide +kernel⟩
theorem o_effect (F : Fx w K mg) (B : Bx K mg base) : ∃ fd, FunD K "effect" "effect" (defArgs (top 29)) (defBody (top 29)) (defScope (top 29)) (d_effect.dvs K) (d_effect.kws K) (He.ga K "effect") fd ∧ FO P w K mg base (tb K) 7 (He.ga K "effect") fd ["text"] Z_effect 1 := by
  obtain ⟨fd, hf⟩ := fd_effect F
  refine ⟨fd, hf, fn_F hf sc_effect (fun i => [0].contains i) rfl rfl _ (fun _ _ => rfl) fun cdv A outer s H E hc hci hr hu => ?_⟩
  have cdE := code_of hf hc hci
  have tk : Takes (cxOf (L2.CX P w) P w K mg base N_effect "effect" (defScope (top 29)) (He.ga K "effect") cdv A outer s H E) (fun cls d _ H => E cls d H) := takes_of rfl rfl rfl rfl
  have nd : N_effect.Nodup := sc_effect.nd
  have h52 := un52 hr
  have h9 : ∀ d v H, ¬ (tb K).ex 9 d v H := no9
  exact (sss_cons (ss_exp (se_fn (G_need_plain F B) hr hu tk [] (sa_cons (se_var (pv 0)) sa_nil)))
  (sss_one (ss_ret (se_fn (G_effect_of F B) hr hu tk [] (sa_cons (se_fn (G_words_of F B) hr hu tk [] (sa_cons (se_var (pv 0)) sa_nil)) sa_nil)))))
theorem G_effect (F : Fx w K mg) (B : Bx K mg base) : FnG P w K mg base (tb K) "effect" 7 1 Z_effect [] := by
  obtain ⟨fd, hf, h⟩ := o_effect (P := P) (base := base) F B
  exact ⟨_, fd, _, [], [], h, g_effect F, hf.kp, FunD.bindsN hf fun _ _ _ _ _ _ us hl => match us, hl with | [_], _ => rfl, .nil, fun _ => rfl⟩
def N__law_word : List Str := ["_law_character_here", "_law_word_here", "_law_some"]
abbrev b__law_word_0 : MS := (sDrop (sIf (mTB (mOp2 inD (mVar 0) (mVar 2))) (sRet (mVar 1)) sPass) [1, 2])
def m__law_word : MS := (sSeq (sDrop (sFor (.tp [(.nm 1), (.nm 2)]) (mIt itL (mLst [(mTup [(mC (.str [68])), (mC (.str [48, 49, 50, 51, 52, 53, 54, 55, 56, 57]))]), (mTup [(mC (.str [83])), (mC (.str [44, 46, 58]))]), (mTup [(mC (.str [84])), (mC (.str [36, 35]))]), (mTup [(mC (.str [78])), (mC (.str [32, 33, 63, 45, 40, 41, 91, 93, 60, 62, 94, 61]))]), (mTup [(mC (.str [76])), (mC (.str [43]))]), (mTup [(mC (.str [82])), (mC (.str [42]))])])) b__law_word_0) [1, 2])
  (sRet (mIf (mTB (mOp2 gtD (mVar 0) (mC (.str [90])))) (mC (.str [76])) (mIf (mTB (mOp2 ltD (mVar 0) (mC (.str [78])))) (mC (.str [82])) (mC (.str [65]))))))
def Z__law_word : Fn := runF (fun i => [0].contains i) 1 2 m__law_word
theorem sc__law_word : FnScope N__law_word ["_law_character_here"] (defScope (top 36)) := ⟨rfl, rfl, rfl, by decide +kernel, rfl, by decide +kernel, by decide +kernel⟩
theorem o__law_word (F : Fx w K mg) (B : Bx K mg base) : ∃ fd, FunD K "_law_word" "_law_word" (defArgs (top 36)) (defBody (top 36)) (defScope (top 36)) (d__law_word.dvs K) (d__law_word.kws K) (He.ga K "_law_word") fd ∧ FO P w K mg base (tb K) 1 (He.ga K "_law_word") fd ["_law_character_here"] Z__law_word 1 := by
  obtain ⟨fd, hf⟩ := fd__law_word F
  refine ⟨fd, hf, fn_F hf sc__law_word (fun i => [0].contains i) rfl rfl _ (fun _ _ => rfl) fun cdv A outer s H E hc hci hr hu => ?_⟩
  have cdE := code_of hf hc hci
  have tk : Takes (cxOf (L2.CX P w) P w K mg base N__law_word "_law_word" (defScope (top 36)) (He.ga K "_law_word") cdv A outer s H E) (fun cls d _ H => E cls d H) := takes_of rfl rfl rfl rfl
  have nd : N__law_word.Nodup := sc__law_word.nd
  have h52 := un52 hr
  have h9 : ∀ d v H, ¬ (tb K).ex 9 d v H := no9
  exact (sss_cons (ss_drop [1, 2] (ss_for (passes_of rfl) rfl (si_list (se_lst (sd_cons (se_tup (sd_cons (se_str (l := [68])) (sd_cons (se_str (l := [48, 49, 50, 51, 52, 53, 54, 55, 56, 57])) sd_nil))) (sd_cons (se_tup (sd_cons (se_str (l := [83])) (sd_cons (se_str (l := [44, 46, 58])) sd_nil))) (sd_cons (se_tup (sd_cons (se_str (l := [84])) (sd_cons (se_str (l := [36, 35])) sd_nil))) (sd_cons (se_tup (sd_cons (se_str (l := [78])) (sd_cons (se_str (l := [32, 33, 63, 45, 40, 41, 91, 93, 60, 62, 94, 61])) sd_nil))) (sd_cons (se_tup (sd_cons (se_str (l := [76])) (sd_cons (se_str (l := [43])) sd_nil))) (sd_cons (se_tup (sd_cons (se_str (l := [82])) (sd_cons (se_str (l := [42])) sd_nil))) sd_nil)))))))) (sg_tup rfl (sgs_cons (sg_name (i := 1) rfl nd rfl (by first | exact Or.inl rfl | exact Or.inr rfl)) (sgs_cons (sg_name (i := 2) rfl nd rfl (by first | exact Or.inl rfl | exact Or.inr rfl)) sgs_nil))) (sss_drop [1, 2] (sss_one (ss_if (sb_cmp (op_inV hr.units) v_in (se_var (pv 0)) (se_var (pv 2)) (by with_unfolding_all rfl)) (sss_one (ss_ret (se_var (pv 1)))) sss_nil)))))
  (sss_one (ss_ret (se_if (sb_cmp op_gtV v_gt (se_var (pv 0)) (se_str (l := [90])) (nomark _)) (se_str (l := [76])) (se_if (sb_cmp op_ltV v_lt (se_var (pv 0)) (se_str (l := [78])) (nomark _)) (se_str (l := [82])) (se_str (l := [65])))))))
theorem G__law_word (F : Fx w K mg) (B : Bx K mg base) : FnG P w K mg base (tb K) "_law_word" 1 1 Z__law_word [] := by
  obtain ⟨fd, hf, h⟩ := o__law_word (P := P) (base := base) F B
  exact ⟨_, fd, _, [], [], h, g__law_word F, hf.kp, FunD.bindsN hf fun _ _ _ _ _ _ us hl => match us, hl with | [_], _ => rfl, .nil, fun _ => rfl⟩
def N__law_next : List Str := ["_law_state", "_law_shown_here", "_law_own", "_law_ways_here", "_law_one"]
def m__law_next : MS := (sSeq (sSet 2 (mBi intD [(mOp2 neD (mOp2 ixD (mVar 0) (mC (.int 0))) (mC (.str [76])))]))
  (sSeq (sSet 3 (mOl1 srtSI (mLc [4] (.nm 4) (mIt itL (mVar 1)) mYes (mIf (mTB (mOp2 eqD (mOp2 ixD (mVar 4) (mC (.int 1))) (mVar 2))) (mVar 2) (mOp2 subD (mC (.int 1)) (mVar 2))))))
  (sRet (mIf (mTB (mOp2 eqD (mBi lenD [(mVar 3)]) (mC (.int 1)))) (mOp2 ixD (mVar 3) (mC (.int 0))) (mC .non)))))
def Z__law_next : Fn := runF (fun i => [0, 1].contains i) 2 3 m__law_next
theorem sc__law_next : FnScope N__law_next ["_law_state", "_law_shown_here"] (defScope (top 43)) := ⟨rfl, rfl, rfl, by decide +kernel, rfl, by decide +kernel, by decide +kernel⟩
theorem o__law_next (F : Fx w K mg) (B : Bx K mg base) : ∃ fd, FunD K "_law_next" "_law_next" (defArgs (top 43)) (defBody (top 43)) (defScope (top 43)) (d__law_next.dvs K) (d__law_next.kws K) (He.ga K "_law_next") fd ∧ FO P w K mg base (tb K) 1 (He.ga K "_law_next") fd ["_law_state", "_law_shown_here"] Z__law_next 2 := by
  obtain ⟨fd, hf⟩ := fd__law_next F
  refine ⟨fd, hf, fn_F hf sc__law_next (fun i => [0, 1].contains i) rfl rfl _ (fun _ _ => rfl) fun cdv A outer s H E hc hci hr hu => ?_⟩
  have cdE := code_of hf hc hci
  have tk : Takes (cxOf (L2.CX P w) P w K mg base N__law_next "_law_next" (defScope (top 43)) (He.ga K "_law_next") cdv A outer s H E) (fun cls d _ H => E cls d H) := takes_of rfl rfl rfl rfl
  have nd : N__law_next.Nodup := sc__law_next.nd
  have h52 := un52 hr
  have h9 : ∀ d v H, ¬ (tb K).ex 9 d v H := no9
  exact (sss_cons (ss_set (i := 2) rfl nd rfl (by first | exact Or.inl rfl | exact Or.inr rfl) (se_ti call_int1 b_int rfl (n_int F) boot_int (sa_cons (se_cmp (op_neP hr.units) v_ne (se_ix ix_seq v_ix (se_var (pv 0)) se_int (fun _ _ => rfl)) (se_str (l := [76])) (nomark _)) sa_nil)))
  (sss_cons (ss_set (i := 3) rfl nd rfl (by first | exact Or.inl rfl | exact Or.inr rfl) (se_srtSI rfl rfl (n_sorted F) rfl (n_set F) (se_lc (own := [("_law_one", 4)]) rfl nd (si_list (se_var (pv 1))) (blkOk_by (own := [("_law_one", 4)]) (N := N__law_next) (sc := defScope (top 43)) (by decide +kernel)) (fun _ _ _ _ _ => (sg_name (i := 4) rfl nd rfl (by first | exact Or.inl rfl | exact Or.inr rfl))) (fun _ _ _ _ _ => sts_nil) (fun _ _ _ _ _ => (se_if (sb_cmp (op_eqP hr.units) v_eq (se_ix ix_seq v_ix (se_var (pv 4)) se_int (fun _ _ => rfl)) (se_var (pv 2)) (nomark _)) (se_var (pv 2)) (se_op op_sub v_sub se_int (se_var (pv 2))))))))
  (sss_one (ss_ret (se_if (sb_cmp (op_eqP hr.units) v_eq (se_bi call_lenV b_len rfl (n_len F) boot_len (sa_cons (se_var (pv 3)) sa_nil)) se_int (nomark _)) (se_ix ix_seq v_ix (se_var (pv 3)) se_int (fun _ _ => rfl)) se_non)))))
theorem G__law_next (F : Fx w K mg) (B : Bx K mg base) : FnG P w K mg base (tb K) "_law_next" 1 2 Z__law_next [] := by
  obtain ⟨fd, hf, h⟩ := o__law_next (P := P) (base := base) F B
  exact ⟨_, fd, _, [], [], h, g__law_next F, hf.kp, FunD.bindsN hf fun _ _ _ _ _ _ us hl => match us, hl with | [_, _], _ => rfl, .nil, fun _ => rfl⟩
def N__law_ahead : List Str := ["_law_state", "_law_tails"]
def m__law_ahead : MS := (sSeq (sSet 1 (mDct [(.s [], (mLst [(mC (.str [78]))])), (.s [100, 105, 103, 105, 116], (mLst [(mC (.str [68]))])), (.s [115, 105, 103, 110], (mLst [(mC (.str [68])), (mC (.str [83]))])), (.s [106, 111, 105, 110, 101, 100], (mLst [(mC (.str [68])), (mC (.str [84]))])), (.s [114, 117, 110], (mLst [(mC (.str [78])), (mC (.str [84]))]))]))
  (sRet (mOl2 catL (mLst [(mOp2 ixD (mVar 0) (mC (.int 0)))]) (mOp2 getKD (mVar 1) (mOp2 ixD (mVar 0) (mC (.int 1)))))))
def Z__law_ahead : Fn := runF (fun i => [0].contains i) 1 1 m__law_ahead
theorem sc__law_ahead : FnScope N__law_ahead ["_law_state"] (defScope (top 41)) := ⟨rfl, rfl, rfl, by decide +kernel, rfl, by decide +kernel, by decide +kernel⟩
theorem o__law_ahead (F : Fx w K mg) (B : Bx K mg base) : ∃ fd, FunD K "_law_ahead" "_law_ahead" (defArgs (top 41)) (defBody (top 41)) (defScope (top 41)) (d__law_ahead.dvs K) (d__law_ahead.kws K) (He.ga K "_law_ahead") fd ∧ FO P w K mg base (tb K) 1 (He.ga K "_law_ahead") fd ["_law_state"] Z__law_ahead 1 := by
  obtain ⟨fd, hf⟩ := fd__law_ahead F
  refine ⟨fd, hf, fn_F hf sc__law_ahead (fun i => [0].contains i) rfl rfl _ (fun _ _ => rfl) fun cdv A outer s H E hc hci hr hu => ?_⟩
  have cdE := code_of hf hc hci
  have tk : Takes (cxOf (L2.CX P w) P w K mg base N__law_ahead "_law_ahead" (defScope (top 41)) (He.ga K "_law_ahead") cdv A outer s H E) (fun cls d _ H => E cls d H) := takes_of rfl rfl rfl rfl
  have nd : N__law_ahead.Nodup := sc__law_ahead.nd
  have h52 := un52 hr
  have h9 : ∀ d v H, ¬ (tb K).ex 9 d v H := no9
  exact (sss_cons (ss_set (i := 1) rfl nd rfl (by first | exact Or.inl rfl | exact Or.inr rfl) (se_dct (sdc_cons (k := .s []) pe_str (se_lst (sd_cons (se_str (l := [78])) sd_nil)) (sdc_cons (k := .s [100, 105, 103, 105, 116]) pe_str (se_lst (sd_cons (se_str (l := [68])) sd_nil)) (sdc_cons (k := .s [115, 105, 103, 110]) pe_str (se_lst (sd_cons (se_str (l := [68])) (sd_cons (se_str (l := [83])) sd_nil))) (sdc_cons (k := .s [106, 111, 105, 110, 101, 100]) pe_str (se_lst (sd_cons (se_str (l := [68])) (sd_cons (se_str (l := [84])) sd_nil))) (sdc_cons (k := .s [114, 117, 110]) pe_str (se_lst (sd_cons (se_str (l := [78])) (sd_cons (se_str (l := [84])) sd_nil))) sdc_nil)))))))
  (sss_one (ss_ret (se_opL op_catR v_cat (se_lst (sd_cons (se_ix ix_seq v_ix (se_var (pv 0)) se_int (fun _ _ => rfl)) sd_nil)) (se_dget (u1 hr) (se_var (pv 1)) (se_ix ix_seq v_ix (se_var (pv 0)) se_int (fun _ _ => rfl)) (fun _ _ => rfl))))))
theorem G__law_ahead (F : Fx w K mg) (B : Bx K mg base) : FnG P w K mg base (tb K) "_law_ahead" 1 1 Z__law_ahead [] := by
  obtain ⟨fd, hf, h⟩ := o__law_ahead (P := P) (base := base) F B
  exact ⟨_, fd, _, [], [], h, g__law_ahead F, hf.kp, FunD.bindsN hf fun _ _ _ _ _ _ us hl => match us, hl with | [_], _ => rfl, .nil, fun _ => rfl⟩
def N__law_sides : List Str := ["_law_sorts", "_law_at", "_law_first", "_law_last"]
abbrev b__law_sides_0 : MS := (sSet 2 (mOp2 subD (mVar 2) (mC (.int 1))))
abbrev b__law_sides_1 : MS := (sSet 3 (mOp2 addD (mVar 3) (mC (.int 1))))
def m__law_sides : MS := (sSeq (sPar [2, 3] [(mVar 1), (mVar 1)])
  (sSeq (sWhile 1000 (mAnd (mTB (mOp2 gtD (mVar 2) (mC (.int 0)))) (mTB (mOp2 eqD (mOp2 ixD (mVar 0) (mVar 2)) (mC (.str [84]))))) b__law_sides_0)
  (sSeq (sWhile 1000 (mAnd (mTB (mOp2 ltD (mVar 3) (mOp2 subD (mBi lenD [(mVar 0)]) (mC (.int 1))))) (mTB (mOp2 eqD (mOp2 ixD (mVar 0) (mVar 3)) (mC (.str [84]))))) b__law_sides_1)
  (sRet (mTup [(mOp2 ixD (mVar 0) (mVar 2)), (mOp2 ixD (mVar 0) (mVar 3))])))))
def Z__law_sides : Fn := runF (fun i => [0, 1].contains i) 2 2 m__law_sides
theorem sc__law_sides : FnScope N__law_sides ["_law_sorts", "_law_at"] (defScope (top 37)) := ⟨rfl, rfl, rfl, by decide +kernel, rfl, by decide +kernel, by decide +kernel⟩
theorem o__law_sides (F : Fx w K mg) (B : Bx K mg base) : ∃ fd, FunD K "_law_sides" "_law_sides" (defArgs (top 37)) (defBody (top 37)) (defScope (top 37)) (d__law_sides.dvs K) (d__law_sides.kws K) (He.ga K "_law_sides") fd ∧ FO P w K mg base (tb K) 1 (He.ga K "_law_sides") fd ["_law_sorts", "_law_at"] Z__law_sides 2 := by
  obtain ⟨fd, hf⟩ := fd__law_sides F
  refine ⟨fd, hf, fn_F hf sc__law_sides (fun i => [0, 1].contains i) rfl rfl _ (fun _ _ => rfl) fun cdv A outer s H E hc hci hr hu => ?_⟩
  have cdE := code_of hf hc hci
  have tk : Takes (cxOf (L2.CX P w) P w K mg base N__law_sides "_law_sides" (defScope (top 37)) (He.ga K "_law_sides") cdv A outer s H E) (fun cls d _ H => E cls d H) := takes_of rfl rfl rfl rfl
  have nd : N__law_sides.Nodup := sc__law_sides.nd
  have h52 := un52 hr
  have h9 : ∀ d v H, ¬ (tb K).ex 9 d v H := no9
  exact (sss_cons (ss_par (i := 2) (j := 3) rfl rfl rfl nd rfl rfl (by decide) rfl rfl (so_cons (se_var (pv 1)) (so_cons (se_var (pv 1)) so_nil)) (by rfl))
  (sss_cons (ss_while 1000 (passes_of rfl) (sw_pt (sw_and (sb_cmp op_gtV v_gt (se_var (pv 2)) se_int (nomark _)) (sw_and1 (sb_cmp (op_eqP hr.units) v_eq (se_ix ix_seq v_ix (se_var (pv 0)) (se_var (pv 2)) (fun _ _ => rfl)) (se_str (l := [84])) (nomark _))))) (sss_one (ss_set (i := 2) rfl nd rfl (by first | exact Or.inl rfl | exact Or.inr rfl) (se_op op_sub v_sub (se_var (pv 2)) se_int))))
  (sss_cons (ss_while 1000 (passes_of rfl) (sw_pt (sw_and (sb_cmp op_ltV v_lt (se_var (pv 3)) (se_op op_sub v_sub (se_bi call_lenV b_len rfl (n_len F) boot_len (sa_cons (se_var (pv 0)) sa_nil)) se_int) (nomark _)) (sw_and1 (sb_cmp (op_eqP hr.units) v_eq (se_ix ix_seq v_ix (se_var (pv 0)) (se_var (pv 3)) (fun _ _ => rfl)) (se_str (l := [84])) (nomark _))))) (sss_one (ss_set (i := 3) rfl nd rfl (by first | exact Or.inl rfl | exact Or.inr rfl) (se_op op_addV v_add (se_var (pv 3)) se_int))))
  (sss_one (ss_ret (se_tup (sd_cons (se_ix ix_seq v_ix (se_var (pv 0)) (se_var (pv 2)) (fun _ _ => rfl)) (sd_cons (se_ix ix_seq v_ix (se_var (pv 0)) (se_var (pv 3)) (fun _ _ => rfl)) sd_nil))))))))
theorem G__law_sides (F : Fx w K mg) (B : Bx K mg base) : FnG P w K mg base (tb K) "_law_sides" 1 2 Z__law_sides [] := by
  obtain ⟨fd, hf, h⟩ := o__law_sides (P := P) (base := base) F B
  exact ⟨_, fd, _, [], [], h, g__law_sides F, hf.kp, FunD.bindsN hf fun _ _ _ _ _ _ us hl => match us, hl with | [_, _], _ => rfl, .nil, fun _ => rfl⟩
def N__law_kinds : List Str := ["_law_words", "_law_right", "_law_strong", "_law_last", "_law_word_here", "_law_sorts", "_law_at", "_law_found", "_law_kind", "_law_joined"]
abbrev b__law_kinds_0 : MS := (sDrop (sSeq (sExp (mMut1 3 appF (mVar 2)))
  (sSet 2 (mIf (mTB (mOp2 inD (mVar 4) (mC (.str [76, 82, 65])))) (mVar 4) (mVar 2)))) [4])
abbrev b__law_kinds_1 : MS := (sDrop (sIf (mAnd (mTB (mOp2 eqD (mOp2 ixD (mVar 0) (mVar 6)) (mC (.str [83])))) (mAnd (mTB (mOp2 eqD (mOp2 ixD (mVar 0) (mOp2 subD (mVar 6) (mC (.int 1)))) (mC (.str [68])))) (mTB (mOp2 eqD (mOp2 ixD (mVar 0) (mOp2 addD (mVar 6) (mC (.int 1)))) (mC (.str [68])))))) (sSto 5 (mVar 6) (mOp2 ixD (mVar 5) (mOp2 subD (mVar 6) (mC (.int 1))))) sPass) [6])
abbrev b__law_kinds_2 : MS := (sDrop (sSeq (sSet 9 (mAndV (mOp2 eqD (mVar 8) (mC (.str [84]))) (mOp2 inD (mC (.str [80])) (mCall Z__law_sides [] [] [(mVar 5), (mVar 6)]))))
  (sExp (mMut1 7 appF (mIf (mTru (mVar 9)) (mC (.str [80])) (mIf (mTB (mOp2 inD (mVar 8) (mC (.str [83, 84])))) (mC (.str [78])) (mVar 8)))))) [6, 8, 9])
def m__law_kinds : MS := (sSeq (sPar [2, 3] [(mIf (mTru (mVar 1)) (mC (.str [82])) (mC (.str [76]))), (mLst [])])
  (sSeq (sDrop (sFor (.nm 4) (mIt itL (mVar 0)) b__law_kinds_0) [2, 4])
  (sSeq (sSet 5 (mLc [6, 4] (.tp [(.nm 6), (.nm 4)]) (mIt itEL (mVar 0)) mYes (mIf (mTB (mOp2 neD (mVar 4) (mC (.str [68])))) (mVar 4) (mIf (mTB (mOp2 eqD (mOp2 ixD (mVar 3) (mVar 6)) (mC (.str [65])))) (mC (.str [69])) (mC (.str [80]))))))
  (sSeq (sDrop (sFor (.nm 6) (mItR (mC (.int 1)) (mOp2 subD (mBi lenD [(mVar 0)]) (mC (.int 1)))) b__law_kinds_1) [6])
  (sSeq (sSet 7 (mLst []))
  (sSeq (sDrop (sFor (.tp [(.nm 6), (.nm 8)]) (mIt itEL (mVar 5)) b__law_kinds_2) [6, 8, 9])
  (sRet (mTup [(mVar 7), (mVar 3)]))))))))
def Z__law_kinds : Fn := runF (fun i => [0, 1].contains i) 2 8 m__law_kinds
theorem sc__law_kinds : FnScope N__law_kinds ["_law_words", "_law_right"] (defScope (top 38)) := ⟨rfl, rfl, rfl, by decide +kernel, rfl, by decide +kernel, by decide +kernel⟩
theorem o__law_kinds (F : Fx w K mg) (B : Bx K mg base) : ∃ fd, FunD K "_law_kinds" "_law_kinds" (defArgs (top 38)) (defBody (top 38)) (defScope (top 38)) (d__law_kinds.dvs K) (d__law_kinds.kws K) (He.ga K "_law_kinds") fd ∧ FO P w K mg base (tb K) 2 (He.ga K "_law_kinds") fd ["_law_words", "_law_right"] Z__law_kinds 2 := by
  obtain ⟨fd, hf⟩ := fd__law_kinds F
  refine ⟨fd, hf, fn_F hf sc__law_kinds (fun i => [0, 1].contains i) rfl rfl _ (fun _ _ => rfl) fun cdv A outer s H E hc hci hr hu => ?_⟩
  have cdE := code_of hf hc hci
  have tk : Takes (cxOf (L2.CX P w) P w K mg base N__law_kinds "_law_kinds" (defScope (top 38)) (He.ga K "_law_kinds") cdv A outer s H E) (fun cls d _ H => E cls d H) := takes_of rfl rfl rfl rfl
  have nd : N__law_kinds.Nodup := sc__law_kinds.nd
  have h52 := un52 hr
  have h9 : ∀ d v H, ¬ (tb K).ex 9 d v H := no9
  exact (sss_cons (ss_parU (i := 2) (j := 3) rfl rfl rfl nd rfl rfl (by first | exact Or.inl rfl | exact Or.inr rfl) (by first | exact Or.inl rfl | exact Or.inr rfl) (so_cons (se_if (sb_tru (se_var (pv 1))) (se_str (l := [82])) (se_str (l := [76]))) (so_cons (se_lst sd_nil) so_nil)))
  (sss_cons (ss_drop [2, 4] (ss_for (passes_of rfl) rfl (si_list (se_var (pv 0))) (sg_name (i := 4) rfl nd rfl (by first | exact Or.inl rfl | exact Or.inr rfl)) (sss_drop [4] (sss_cons (ss_exp (se_mut1 (i := 3) PySem.F.slot_list_append PySem.F.type_list_append mt_append m_app (pv 3) (se_var (pv 2))))
  (sss_one (ss_set (i := 2) rfl nd rfl (by first | exact Or.inl rfl | exact Or.inr rfl) (se_if (sb_cmp (op_inV hr.units) v_in (se_var (pv 4)) (se_str (l := [76, 82, 65])) (by with_unfolding_all rfl)) (se_var (pv 4)) (se_var (pv 2)))))))))
  (sss_cons (ss_setLc (i := 5) (own := [("_law_at", 6), ("_law_word_here", 4)]) rfl rfl nd rfl rfl (sw_true rfl rfl rfl (by decide +kernel)) (si_enumL rfl (n_enumerate F) (se_var (pv 0))) (blkOk_by (own := [("_law_at", 6), ("_law_word_here", 4)]) (N := N__law_kinds) (sc := defScope (top 38)) (by decide +kernel)) (fun _ _ _ _ _ => (sg_tup rfl (sgs_cons (sg_name (i := 6) rfl nd rfl (by first | exact Or.inl rfl | exact Or.inr rfl)) (sgs_cons (sg_name (i := 4) rfl nd rfl (by first | exact Or.inl rfl | exact Or.inr rfl)) sgs_nil)))) (fun _ _ _ _ _ => sts_nil) (fun _ _ _ _ _ => (se_if (sb_cmp (op_neP hr.units) v_ne (se_var (pv 4)) (se_str (l := [68])) (nomark _)) (se_var (pv 4)) (se_if (sb_cmp (op_eqP hr.units) v_eq (se_ix ix_seq v_ix (se_var (pv 3)) (se_var (pv 6)) (fun _ _ => rfl)) (se_str (l := [65])) (nomark _)) (se_str (l := [69])) (se_str (l := [80]))))))
  (sss_cons (ss_drop [6] (ss_for (passes_of rfl) rfl (si_rng2 rfl (n_range F) se_int (se_op op_sub v_sub (se_bi call_lenV b_len rfl (n_len F) boot_len (sa_cons (se_var (pv 0)) sa_nil)) se_int)) (sg_name (i := 6) rfl nd rfl (by first | exact Or.inl rfl | exact Or.inr rfl)) (sss_drop [6] (sss_one (ss_if (sw_pt (sw_and (sb_cmp (op_eqP hr.units) v_eq (se_ix ix_seq v_ix (se_var (pv 0)) (se_var (pv 6)) (fun _ _ => rfl)) (se_str (l := [83])) (nomark _)) (sw_and (sb_cmp (op_eqP hr.units) v_eq (se_ix ix_seq v_ix (se_var (pv 0)) (se_op op_sub v_sub (se_var (pv 6)) se_int) (fun _ _ => rfl)) (se_str (l := [68])) (nomark _)) (sw_and1 (sb_cmp (op_eqP hr.units) v_eq (se_ix ix_seq v_ix (se_var (pv 0)) (se_op op_addV v_add (se_var (pv 6)) se_int) (fun _ _ => rfl)) (se_str (l := [68])) (nomark _)))))) (sss_one (ss_sto (i := 5) (pv 5) (se_var (pv 6)) (se_ix ix_seq v_ix (se_var (pv 5)) (se_op op_sub v_sub (se_var (pv 6)) se_int) (fun _ _ => rfl)) (fun _ => rfl))) sss_nil)))))
  (sss_cons (ss_set (i := 7) rfl nd rfl (by first | exact Or.inl rfl | exact Or.inr rfl) (se_lst sd_nil))
  (sss_cons (ss_drop [6, 8, 9] (ss_for (passes_of rfl) rfl (si_enumL rfl (n_enumerate F) (se_var (pv 5))) (sg_tup rfl (sgs_cons (sg_name (i := 6) rfl nd rfl (by first | exact Or.inl rfl | exact Or.inr rfl)) (sgs_cons (sg_name (i := 8) rfl nd rfl (by first | exact Or.inl rfl | exact Or.inr rfl)) sgs_nil))) (sss_drop [6, 8, 9] (sss_cons (ss_set (i := 9) rfl nd rfl (by first | exact Or.inl rfl | exact Or.inr rfl) (se_and (se_cmp (op_eqP hr.units) v_eq (se_var (pv 8)) (se_str (l := [84])) (nomark _)) (se_one (se_cmp (op_inV hr.units) v_in (se_str (l := [80])) (se_fn (G__law_sides F B) hr hu tk [] (sa_cons (se_var (pv 5)) (sa_cons (se_var (pv 6)) sa_nil))) (by with_unfolding_all rfl)))))
  (sss_one (ss_exp (se_mut1 (i := 7) PySem.F.slot_list_append PySem.F.type_list_append mt_append m_app (pv 7) (se_if (sb_tru (se_var (pv 9))) (se_str (l := [80])) (se_if (sb_cmp (op_inV hr.units) v_in (se_var (pv 8)) (se_str (l := [83, 84])) (by with_unfolding_all rfl)) (se_str (l := [78])) (se_var (pv 8)))))))))))
  (sss_one (ss_ret (se_tup (sd_cons (se_var (pv 7)) (sd_cons (se_var (pv 3)) sd_nil)))))))))))
theorem G__law_kinds (F : Fx w K mg) (B : Bx K mg base) : FnG P w K mg base (tb K) "_law_kinds" 2 2 Z__law_kinds [] := by
  obtain ⟨fd, hf, h⟩ := o__law_kinds (P := P) (base := base) F B
  exact ⟨_, fd, _, [], [], h, g__law_kinds F, hf.kp, FunD.bindsN hf fun _ _ _ _ _ _ us hl => match us, hl with | [_, _], _ => rfl, .nil, fun _ => rfl⟩
def N__law_way : List Str := ["_law_kind", "_law_strong"]
def m__law_way : MS := (sRet (mIf (mTB (mOp2 eqD (mVar 0) (mC (.str [78])))) (mC .non) (mBi intD [(mOp2 neD (mIf (mTB (mOp2 inD (mVar 0) (mC (.str [80, 69])))) (mVar 1) (mVar 0)) (mC (.str [76])))])))
def Z__law_way : Fn := runF (fun i => [0, 1].contains i) 2 0 m__law_way
theorem sc__law_way : FnScope N__law_way ["_law_kind", "_law_strong"] (defScope (top 39)) := ⟨rfl, rfl, rfl, by decide +kernel, rfl, by decide +kernel, by decide +kernel⟩
theorem o__law_way (F : Fx w K mg) (B : Bx K mg base) : ∃ fd, FunD K "_law_way" "_law_way" (defArgs (top 39)) (defBody (top 39)) (defScope (top 39)) (d__law_way.dvs K) (d__law_way.kws K) (He.ga K "_law_way") fd ∧ FO P w K mg base (tb K) 1 (He.ga K "_law_way") fd ["_law_kind", "_law_strong"] Z__law_way 2 := by
  obtain ⟨fd, hf⟩ := fd__law_way F
  refine ⟨fd, hf, fn_F hf sc__law_way (fun i => [0, 1].contains i) rfl rfl _ (fun _ _ => rfl) fun cdv A outer s H E hc hci hr hu => ?_⟩
  have cdE := code_of hf hc hci
  have tk : Takes (cxOf (L2.CX P w) P w K mg base N__law_way "_law_way" (defScope (top 39)) (He.ga K "_law_way") cdv A outer s H E) (fun cls d _ H => E cls d H) := takes_of rfl rfl rfl rfl
  have nd : N__law_way.Nodup := sc__law_way.nd
  have h52 := un52 hr
  have h9 : ∀ d v H, ¬ (tb K).ex 9 d v H := no9
  exact (sss_one (ss_ret (se_if (sb_cmp (op_eqP hr.units) v_eq (se_var (pv 0)) (se_str (l := [78])) (nomark _)) se_non (se_ti call_int1 b_int rfl (n_int F) boot_int (sa_cons (se_cmp (op_neP hr.units) v_ne (se_if (sb_cmp (op_inV hr.units) v_in (se_var (pv 0)) (se_str (l := [80, 69])) (by with_unfolding_all rfl)) (se_var (pv 1)) (se_var (pv 0))) (se_str (l := [76])) (nomark _)) sa_nil)))))
theorem G__law_way (F : Fx w K mg) (B : Bx K mg base) : FnG P w K mg base (tb K) "_law_way" 1 2 Z__law_way [] := by
  obtain ⟨fd, hf, h⟩ := o__law_way (P := P) (base := base) F B
  exact ⟨_, fd, _, [], [], h, g__law_way F, hf.kp, FunD.bindsN hf fun _ _ _ _ _ _ us hl => match us, hl with | [_, _], _ => rfl, .nil, fun _ => rfl⟩
def N__law_ways : List Str := ["_law_words", "_law_right", "_law_sorts", "_law_last", "_law_ways_here", "_law_found", "_law_at", "_law_way_here", "_law_ahead_here", "_law_behind", "_law_kind", "_law_strong", "_law_one"]
abbrev b__law_ways_0 : MS := (sDrop (sSeq (sSet 8 (mOp2 ixD (mOl2 catL (mLst [(mBi intD [(mVar 1)])]) (mLc [12] (.nm 12) (mIt itL (mSlL slL (mVar 4) none (some (mVar 6)))) (mTB (mOp2 isntD (mVar 12) (mC .non))) (mVar 12))) (mOp1 negD (mC (.int 1)))))
  (sSeq (sSet 9 (mOp2 ixD (mOl2 catL (mLc [12] (.nm 12) (mIt itL (mSlL slL (mVar 4) (some (mVar 6)) none)) (mTB (mOp2 isntD (mVar 12) (mC .non))) (mVar 12)) (mLst [(mBi intD [(mVar 1)])])) (mC (.int 0))))
  (sExp (mMut1 5 appF (mIf (mTB (mOp2 isntD (mVar 7) (mC .non))) (mVar 7) (mIf (mTB (mOp2 eqD (mVar 8) (mVar 9))) (mVar 8) (mBi intD [(mVar 1)]))))))) [6, 7, 8, 9])
def m__law_ways : MS := (sSeq (sUnp (.tp [(.nm 2), (.nm 3)]) (mCall Z__law_kinds [] [] [(mVar 0), (mVar 1)]))
  (sSeq (sPar [4, 5] [(mLc [10, 11] (.tp [(.nm 10), (.nm 11)]) (mItZ (mVar 2) (mVar 3)) mYes (mCall Z__law_way [] [] [(mVar 10), (mVar 11)])), (mLst [])])
  (sSeq (sDrop (sFor (.tp [(.nm 6), (.nm 7)]) (mIt itEL (mVar 4)) b__law_ways_0) [6, 7, 8, 9])
  (sRet (mVar 5)))))
def Z__law_ways : Fn := runF (fun i => [0, 1].contains i) 2 11 m__law_ways
theorem sc__law_ways : FnScope N__law_ways ["_law_words", "_law_right"] (defScope (top 40)) := ⟨rfl, rfl, rfl, by decide +kernel, rfl, by decide +kernel, by decide +kernel⟩
theorem o__law_ways (F : Fx w K mg) (B : Bx K mg base) : ∃ fd, FunD K "_law_ways" "_law_ways" (defArgs (top 40)) (defBody (top 40)) (defScope (top 40)) (d__law_ways.dvs K) (d__law_ways.kws K) (He.ga K "_law_ways") fd ∧ FO P w K mg base (tb K) 3 (He.ga K "_law_ways") fd ["_law_words", "_law_right"] Z__law_ways 2 := by
  obtain ⟨fd, hf⟩ := fd__law_ways F
  refine ⟨fd, hf, fn_F hf sc__law_ways (fun i => [0, 1].contains i) rfl rfl _ (fun _ _ => rfl) fun cdv A outer s H E hc hci hr hu => ?_⟩
  have cdE := code_of hf hc hci
  have tk : Takes (cxOf (L2.CX P w) P w K mg base N__law_ways "_law_ways" (defScope (top 40)) (He.ga K "_law_ways") cdv A outer s H E) (fun cls d _ H => E cls d H) := takes_of rfl rfl rfl rfl
  have nd : N__law_ways.Nodup := sc__law_ways.nd
  have h52 := un52 hr
  have h9 : ∀ d v H, ¬ (tb K).ex 9 d v H := no9
  exact (sss_cons (ss_unp (se_fn (G__law_kinds F B) hr hu tk [] (sa_cons (se_var (pv 0)) (sa_cons (se_var (pv 1)) sa_nil))) (sg_tup rfl (sgs_cons (sg_name (i := 2) rfl nd rfl (by first | exact Or.inl rfl | exact Or.inr rfl)) (sgs_cons (sg_name (i := 3) rfl nd rfl (by first | exact Or.inl rfl | exact Or.inr rfl)) sgs_nil))))
  (sss_cons (ss_par (i := 4) (j := 5) rfl rfl rfl nd rfl rfl (by decide) rfl rfl (so_cons (se_lc (own := [("_law_kind", 10), ("_law_strong", 11)]) rfl nd (si_zip rfl (n_zip F) (se_var (pv 2)) (se_var (pv 3))) (blkOk_by (own := [("_law_kind", 10), ("_law_strong", 11)]) (N := N__law_ways) (sc := defScope (top 40)) (by decide +kernel)) (fun _ _ _ _ _ => (sg_tup rfl (sgs_cons (sg_name (i := 10) rfl nd rfl (by first | exact Or.inl rfl | exact Or.inr rfl)) (sgs_cons (sg_name (i := 11) rfl nd rfl (by first | exact Or.inl rfl | exact Or.inr rfl)) sgs_nil)))) (fun _ _ _ _ _ => sts_nil) (fun _ _ _ _ _ => (se_fn (G__law_way F B) hr hu no_takes [] (sa_cons (se_var (pv 10)) (sa_cons (se_var (pv 11)) sa_nil))))) (so_cons (se_lst sd_nil) so_nil)) (by rfl))
  (sss_cons (ss_drop [6, 7, 8, 9] (ss_for (passes_of rfl) rfl (si_enumL rfl (n_enumerate F) (se_var (pv 4))) (sg_tup rfl (sgs_cons (sg_name (i := 6) rfl nd rfl (by first | exact Or.inl rfl | exact Or.inr rfl)) (sgs_cons (sg_name (i := 7) rfl nd rfl (by first | exact Or.inl rfl | exact Or.inr rfl)) sgs_nil))) (sss_drop [6, 7, 8, 9] (sss_cons (ss_set (i := 8) rfl nd rfl (by first | exact Or.inl rfl | exact Or.inr rfl) (se_ix ix_seq v_ix (se_opL op_catR v_cat (se_lst (sd_cons (se_ti call_int1 b_int rfl (n_int F) boot_int (sa_cons (se_var (pv 1)) sa_nil)) sd_nil)) (se_lc (own := [("_law_one", 12)]) rfl nd (si_list (se_slL sl_list sl_L (se_var (pv 4)) spt_none (spt_some (se_var (pv 6))))) (blkOk_by (own := [("_law_one", 12)]) (N := N__law_ways) (sc := defScope (top 40)) (by decide +kernel)) (fun _ _ _ _ _ => (sg_name (i := 12) rfl nd rfl (by first | exact Or.inl rfl | exact Or.inr rfl))) (fun _ _ _ _ _ => (sts_one (sb_cmp op_notN v_notN (se_var (pv 12)) se_non (nomark _)))) (fun _ _ _ _ _ => (se_var (pv 12))))) (se_un un_neg v_neg se_int) (fun _ _ => rfl)))
  (sss_cons (ss_set (i := 9) rfl nd rfl (by first | exact Or.inl rfl | exact Or.inr rfl) (se_ix ix_seq v_ix (se_opL op_catR v_cat (se_lc (own := [("_law_one", 12)]) rfl nd (si_list (se_slL sl_list sl_L (se_var (pv 4)) (spt_some (se_var (pv 6))) spt_none)) (blkOk_by (own := [("_law_one", 12)]) (N := N__law_ways) (sc := defScope (top 40)) (by decide +kernel)) (fun _ _ _ _ _ => (sg_name (i := 12) rfl nd rfl (by first | exact Or.inl rfl | exact Or.inr rfl))) (fun _ _ _ _ _ => (sts_one (sb_cmp op_notN v_notN (se_var (pv 12)) se_non (nomark _)))) (fun _ _ _ _ _ => (se_var (pv 12)))) (se_lst (sd_cons (se_ti call_int1 b_int rfl (n_int F) boot_int (sa_cons (se_var (pv 1)) sa_nil)) sd_nil))) se_int (fun _ _ => rfl)))
  (sss_one (ss_exp (se_mut1 (i := 5) PySem.F.slot_list_append PySem.F.type_list_append mt_append m_app (pv 5) (se_if (sb_cmp op_notN v_notN (se_var (pv 7)) se_non (nomark _)) (se_var (pv 7)) (se_if (sb_cmp (op_eqP hr.units) v_eq (se_var (pv 8)) (se_var (pv 9)) (nomark _)) (se_var (pv 8)) (se_ti call_int1 b_int rfl (n_int F) boot_int (sa_cons (se_var (pv 1)) sa_nil))))))))))))
  (sss_one (ss_ret (se_var (pv 5)))))))
theorem G__law_ways (F : Fx w K mg) (B : Bx K mg base) : FnG P w K mg base (tb K) "_law_ways" 3 2 Z__law_ways [] := by
  obtain ⟨fd, hf, h⟩ := o__law_ways (P := P) (base := base) F B
  exact ⟨_, fd, _, [], [], h, g__law_ways F, hf.kp, FunD.bindsN hf fun _ _ _ _ _ _ us hl => match us, hl with | [_, _], _ => rfl, .nil, fun _ => rfl⟩
def N__law_shown : List Str := ["_law_state", "_law_words", "_law_at", "_law_found", "_law_right", "_law_more", "_law_whole", "_law_kind"]
abbrev b__law_shown_0 : MS := (sDrop (sSeq (sSet 6 (mOl2 catL (mOl2 catL (mCall Z__law_ahead [] [] [(mVar 0)]) (mVar 1)) (mVar 5)))
  (sSeq (sSet 7 (mOp2 ixD (mOp2 ixD (mCall Z__law_kinds [] [] [(mVar 6), (mVar 4)]) (mC (.int 0))) (mVar 2)))
  (sExp (mMut1 3 appF (mIf (mTB (mOp2 inD (mVar 7) (mC (.str [80, 69])))) (mTup [(mC (.str [100, 105, 103, 105, 116]))]) (mTup [(mC (.str [78])), (mOp2 ixD (mCall Z__law_ways [] [] [(mVar 6), (mVar 4)]) (mVar 2))])))))) [5, 6, 7])
def m__law_shown : MS := (sSeq (sPar [3, 4] [(mLst []), (mOp2 eqD (mOp2 ixD (mVar 0) (mC (.int 0))) (mC (.str [76])))])
  (sSeq (sDrop (sFor (.nm 5) (mIt itL (mLst [(mLst []), (mLst [(mC (.str [76]))]), (mLst [(mC (.str [82]))]), (mLst [(mC (.str [68]))]), (mLst [(mC (.str [78])), (mC (.str [68]))])])) b__law_shown_0) [5, 6, 7])
  (sRet (mVar 3))))
def Z__law_shown : Fn := runF (fun i => [0, 1, 2].contains i) 3 5 m__law_shown
theorem sc__law_shown : FnScope N__law_shown ["_law_state", "_law_words", "_law_at"] (defScope (top 42)) := ⟨rfl, rfl, rfl, by decide +kernel, rfl, by decide +kernel, by decide +kernel⟩
theorem o__law_shown (F : Fx w K mg) (B : Bx K mg base) : ∃ fd, FunD K "_law_shown" "_law_shown" (defArgs (top 42)) (defBody (top 42)) (defScope (top 42)) (d__law_shown.dvs K) (d__law_shown.kws K) (He.ga K "_law_shown") fd ∧ FO P w K mg base (tb K) 4 (He.ga K "_law_shown") fd ["_law_state", "_law_words", "_law_at"] Z__law_shown 3 := by
  obtain ⟨fd, hf⟩ := fd__law_shown F
  refine ⟨fd, hf, fn_F hf sc__law_shown (fun i => [0, 1, 2].contains i) rfl rfl _ (fun _ _ => rfl) fun cdv A outer s H E hc hci hr hu => ?_⟩
  have cdE := code_of hf hc hci
  have tk : Takes (cxOf (L2.CX P w) P w K mg base N__law_shown "_law_shown" (defScope (top 42)) (He.ga K "_law_shown") cdv A outer s H E) (fun cls d _ H => E cls d H) := takes_of rfl rfl rfl rfl
  have nd : N__law_shown.Nodup := sc__law_shown.nd
  have h52 := un52 hr
  have h9 : ∀ d v H, ¬ (tb K).ex 9 d v H := no9
  exact (sss_cons (ss_par (i := 3) (j := 4) rfl rfl rfl nd rfl rfl (by decide) rfl rfl (so_cons (se_lst sd_nil) (so_cons (se_cmp (op_eqP hr.units) v_eq (se_ix ix_seq v_ix (se_var (pv 0)) se_int (fun _ _ => rfl)) (se_str (l := [76])) (nomark _)) so_nil)) (by rfl))
  (sss_cons (ss_drop [5, 6, 7] (ss_for (passes_of rfl) rfl (si_list (se_lst (sd_cons (se_lst sd_nil) (sd_cons (se_lst (sd_cons (se_str (l := [76])) sd_nil)) (sd_cons (se_lst (sd_cons (se_str (l := [82])) sd_nil)) (sd_cons (se_lst (sd_cons (se_str (l := [68])) sd_nil)) (sd_cons (se_lst (sd_cons (se_str (l := [78])) (sd_cons (se_str (l := [68])) sd_nil))) sd_nil))))))) (sg_name (i := 5) rfl nd rfl (by first | exact Or.inl rfl | exact Or.inr rfl)) (sss_drop [5, 6, 7] (sss_cons (ss_set (i := 6) rfl nd rfl (by first | exact Or.inl rfl | exact Or.inr rfl) (se_opL op_catR v_cat (se_opL op_catR v_cat (se_fn (G__law_ahead F B) hr hu tk [] (sa_cons (se_var (pv 0)) sa_nil)) (se_var (pv 1))) (se_var (pv 5))))
  (sss_cons (ss_set (i := 7) rfl nd rfl (by first | exact Or.inl rfl | exact Or.inr rfl) (se_ix ix_seq v_ix (se_ix ix_seq v_ix (se_fn (G__law_kinds F B) hr hu tk [] (sa_cons (se_var (pv 6)) (sa_cons (se_var (pv 4)) sa_nil))) se_int (fun _ _ => rfl)) (se_var (pv 2)) (fun _ _ => rfl)))
  (sss_one (ss_exp (se_mut1 (i := 3) PySem.F.slot_list_append PySem.F.type_list_append mt_append m_app (pv 3) (se_if (sb_cmp (op_inV hr.units) v_in (se_var (pv 7)) (se_str (l := [80, 69])) (by with_unfolding_all rfl)) (se_tup (sd_cons (se_str (l := [100, 105, 103, 105, 116])) sd_nil)) (se_tup (sd_cons (se_str (l := [78])) (sd_cons (se_ix ix_seq v_ix (se_fn (G__law_ways F B) hr hu tk [] (sa_cons (se_var (pv 6)) (sa_cons (se_var (pv 4)) sa_nil))) (se_var (pv 2)) (fun _ _ => rfl)) sd_nil))))))))))))
  (sss_one (ss_ret (se_var (pv 3))))))
theorem G__law_shown (F : Fx w K mg) (B : Bx K mg base) : FnG P w K mg base (tb K) "_law_shown" 4 3 Z__law_shown [] := by
  obtain ⟨fd, hf, h⟩ := o__law_shown (P := P) (base := base) F B
  exact ⟨_, fd, _, [], [], h, g__law_shown F, hf.kp, FunD.bindsN hf fun _ _ _ _ _ _ us hl => match us, hl with | [_, _, _], _ => rfl, .nil, fun _ => rfl⟩
def N__law_neutral : List Str := ["_law_state", "_law_words"]
def m__law_neutral : MS := (sRet (mIf (mTB (mOp2 inD (mOp2 ixD (mVar 0) (mC (.int 1))) (mTup [(mC (.str [])), (mC (.str [114, 117, 110]))]))) (mCall Z__law_next [] [] [(mVar 0), (mSlL slL (mCall Z__law_shown [] [] [(mVar 0), (mVar 1), (mC (.int 1))]) (some (mC (.int 1))) none)]) (mC .non)))
def Z__law_neutral : Fn := runF (fun i => [0, 1].contains i) 2 0 m__law_neutral
theorem sc__law_neutral : FnScope N__law_neutral ["_law_state", "_law_words"] (defScope (top 44)) := ⟨rfl, rfl, rfl, by decide +kernel, rfl, by decide +kernel, by decide +kernel⟩
theorem o__law_neutral (F : Fx w K mg) (B : Bx K mg base) : ∃ fd, FunD K "_law_neutral" "_law_neutral" (defArgs (top 44)) (defBody (top 44)) (defScope (top 44)) (d__law_neutral.dvs K) (d__law_neutral.kws K) (He.ga K "_law_neutral") fd ∧ FO P w K mg base (tb K) 5 (He.ga K "_law_neutral") fd ["_law_state", "_law_words"] Z__law_neutral 2 := by
  obtain ⟨fd, hf⟩ := fd__law_neutral F
  refine ⟨fd, hf, fn_F hf sc__law_neutral (fun i => [0, 1].contains i) rfl rfl _ (fun _ _ => rfl) fun cdv A outer s H E hc hci hr hu => ?_⟩
  have cdE := code_of hf hc hci
  have tk : Takes (cxOf (L2.CX P w) P w K mg base N__law_neutral "_law_neutral" (defScope (top 44)) (He.ga K "_law_neutral") cdv A outer s H E) (fun cls d _ H => E cls d H) := takes_of rfl rfl rfl rfl
  have nd : N__law_neutral.Nodup := sc__law_neutral.nd
  have h52 := un52 hr
  have h9 : ∀ d v H, ¬ (tb K).ex 9 d v H := no9
  exact (sss_one (ss_ret (se_if (sb_cmp (op_inV hr.units) v_in (se_ix ix_seq v_ix (se_var (pv 0)) se_int (fun _ _ => rfl)) (se_tup (sd_cons (se_str (l := [])) (sd_cons (se_str (l := [114, 117, 110])) sd_nil))) (by with_unfolding_all rfl)) (se_fn (G__law_next F B) hr hu tk [] (sa_cons (se_var (pv 0)) (sa_cons (se_slL sl_list sl_L (se_fn (G__law_shown F B) hr hu tk [] (sa_cons (se_var (pv 0)) (sa_cons (se_var (pv 1)) (sa_cons se_int sa_nil)))) (spt_some se_int) spt_none) sa_nil))) se_non)))
theorem G__law_neutral (F : Fx w K mg) (B : Bx K mg base) : FnG P w K mg base (tb K) "_law_neutral" 5 2 Z__law_neutral [] := by
  obtain ⟨fd, hf, h⟩ := o__law_neutral (P := P) (base := base) F B
  exact ⟨_, fd, _, [], [], h, g__law_neutral F, hf.kp, FunD.bindsN hf fun _ _ _ _ _ _ us hl => match us, hl with | [_, _], _ => rfl, .nil, fun _ => rfl⟩
def N__law_waiting : List Str := ["_law_state", "_law_words", "_law_shown_here", "_law_told"]
def m__law_waiting : MS := (sSeq (sIf (mOr (mTB (mOp2 ninD (mOp2 ixD (mVar 0) (mC (.int 1))) (mTup [(mC (.str [114, 117, 110])), (mC (.str [115, 105, 103, 110]))]))) (mTB (mOp2 eqD (mVar 1) (mLst [])))) (sRet (mC .non)) sPass)
  (sSeq (sIf (mAnd (mTB (mOp2 eqD (mOp2 ixD (mVar 0) (mC (.int 1))) (mC (.str [114, 117, 110])))) (mTB (mOp2 eqD (mOl1 srtST (mVar 1)) (mLst [(mC (.str [84]))])))) (sRet (mC .non)) sPass)
  (sSeq (sSet 2 (mSlL slL (mCall Z__law_shown [] [] [(mVar 0), (mVar 1), (mC (.int 2))]) (some (mC (.int 1))) none))
  (sSeq (sIf (mTB (mOp2 inD (mTup [(mC (.str [100, 105, 103, 105, 116]))]) (mVar 2))) (sRet (mC (.str [100, 105, 103, 105, 116]))) sPass)
  (sSeq (sSet 3 (mCall Z__law_next [] [] [(mVar 0), (mVar 2)]))
  (sRet (mIf (mTB (mOp2 isD (mVar 3) (mC .non))) (mC (.str [78])) (mVar 3))))))))
def Z__law_waiting : Fn := runF (fun i => [0, 1].contains i) 2 2 m__law_waiting
theorem sc__law_waiting : FnScope N__law_waiting ["_law_state", "_law_words"] (defScope (top 45)) := ⟨rfl, rfl, rfl, by decide +kernel, rfl, by decide +kernel, by decide +kernel⟩
theorem o__law_waiting (F : Fx w K mg) (B : Bx K mg base) : ∃ fd, FunD K "_law_waiting" "_law_waiting" (defArgs (top 45)) (defBody (top 45)) (defScope (top 45)) (d__law_waiting.dvs K) (d__law_waiting.kws K) (He.ga K "_law_waiting") fd ∧ FO P w K mg base (tb K) 5 (He.ga K "_law_waiting") fd ["_law_state", "_law_words"] Z__law_waiting 2 := by
  obtain ⟨fd, hf⟩ := fd__law_waiting F
  refine ⟨fd, hf, fn_F hf sc__law_waiting (fun i => [0, 1].contains i) rfl rfl _ (fun _ _ => rfl) fun cdv A outer s H E hc hci hr hu => ?_⟩
  have cdE := code_of hf hc hci
  have tk : Takes (cxOf (L2.CX P w) P w K mg base N__law_waiting "_law_waiting" (defScope (top 45)) (He.ga K "_law_waiting") cdv A outer s H E) (fun cls d _ H => E cls d H) := takes_of rfl rfl rfl rfl
  have nd : N__law_waiting.Nodup := sc__law_waiting.nd
  have h52 := un52 hr
  have h9 : ∀ d v H, ¬ (tb K).ex 9 d v H := no9
  exact (sss_cons (ss_if (sw_pt (sw_or (sb_cmp (op_notInV hr.units) v_notIn (se_ix ix_seq v_ix (se_var (pv 0)) se_int (fun _ _ => rfl)) (se_tup (sd_cons (se_str (l := [114, 117, 110])) (sd_cons (se_str (l := [115, 105, 103, 110])) sd_nil))) (by with_unfolding_all rfl)) (sw_or1 (sb_cmp (op_eqP hr.units) v_eq (se_var (pv 1)) (se_lst sd_nil) (nomark _))))) (sss_one (ss_ret se_non)) sss_nil)
  (sss_cons (ss_if (sw_pt (sw_and (sb_cmp (op_eqP hr.units) v_eq (se_ix ix_seq v_ix (se_var (pv 0)) se_int (fun _ _ => rfl)) (se_str (l := [114, 117, 110])) (nomark _)) (sw_and1 (sb_cmp (op_eqP hr.units) v_eq (se_srtST rfl rfl (n_sorted F) rfl (n_set F) (se_var (pv 1))) (se_lst (sd_cons (se_str (l := [84])) sd_nil)) (nomark _))))) (sss_one (ss_ret se_non)) sss_nil)
  (sss_cons (ss_set (i := 2) rfl nd rfl (by first | exact Or.inl rfl | exact Or.inr rfl) (se_slL sl_list sl_L (se_fn (G__law_shown F B) hr hu tk [] (sa_cons (se_var (pv 0)) (sa_cons (se_var (pv 1)) (sa_cons se_int sa_nil)))) (spt_some se_int) spt_none))
  (sss_cons (ss_if (sb_cmp (op_inV hr.units) v_in (se_tup (sd_cons (se_str (l := [100, 105, 103, 105, 116])) sd_nil)) (se_var (pv 2)) (by with_unfolding_all rfl)) (sss_one (ss_ret (se_str (l := [100, 105, 103, 105, 116])))) sss_nil)
  (sss_cons (ss_set (i := 3) rfl nd rfl (by first | exact Or.inl rfl | exact Or.inr rfl) (se_fn (G__law_next F B) hr hu tk [] (sa_cons (se_var (pv 0)) (sa_cons (se_var (pv 2)) sa_nil))))
  (sss_one (ss_ret (se_if (sb_cmp op_isN v_isN (se_var (pv 3)) se_non (nomark _)) (se_str (l := [78])) (se_var (pv 3))))))))))
theorem G__law_waiting (F : Fx w K mg) (B : Bx K mg base) : FnG P w K mg base (tb K) "_law_waiting" 5 2 Z__law_waiting [] := by
  obtain ⟨fd, hf, h⟩ := o__law_waiting (P := P) (base := base) F B
  exact ⟨_, fd, _, [], [], h, g__law_waiting F, hf.kp, FunD.bindsN hf fun _ _ _ _ _ _ us hl => match us, hl with | [_, _], _ => rfl, .nil, fun _ => rfl⟩
def N_law : List Str := ["_law_script", "_law_at", "_law_bag_here", "_law_turn", "_law_text_here", "_law_words", "_law_due", "_law_told", "_law_state", "_law_one"]
abbrev b_law_0 : MS := (sDrop (sExp (mMut1 6 appF (mTup [(mCall Z__law_neutral [] [] [(mVar 8), (mVar 5)]), (mCall Z__law_waiting [] [] [(mVar 8), (mVar 5)])]))) [8])
abbrev b_law_1 : MS := (sDrop (sSeq (sSet 4 (mCall Z__law_text [.bo, .lk, .lk] [] [(mVar 2), (mCall Z__law_of [.bo, .lk] [] [(mVar 2), (mLst [(mC (.str [76, 82, 65, 68, 83, 84, 78])), (mC (.str [68, 83, 84, 78])), (mC (.str [68, 84])), (mC (.str [83, 84])), (mC (.str [65, 68, 84])), (mC (.str [84, 78])), (mC (.str [83, 68]))])]), (mC (.int 6))]))
  (sSeq (sPar [5, 6] [(mLc [9] (.nm 9) (mIt itS (mVar 4)) mYes (mCall Z__law_word [] [] [(mVar 9)])), (mLst [])])
  (sSeq (sSet 7 (mCall Z_effect [] [] [(mVar 4)]))
  (sSeq (sDrop (sFor (.nm 8) (mIt itL (mCall Z_states [] [] [])) b_law_0) [8])
  (sIf (mTB (mOp2 neD (mBi reprZ [(mLc [9] (.nm 9) (mIt itL (mVar 7)) mYes (mSl slT (mVar 9) (some (mC (.int 1))) none))]) (mBi reprZ [(mVar 6)]))) (sRet (mC (.bl false))) sPass))))) [3, 4, 5, 6, 7, 8])
abbrev b_law_2 : MS := (sDrop (sSeq (sSet 2 (mCall Z__law_bag [] [] [(mVar 0), (mVar 1)]))
  (sDrop (sFor (.nm 3) (mIt itR1 (mC (.int 4))) b_law_1) [3, 4, 5, 6, 7, 8])) [1, 2, 3, 4, 5, 6, 7, 8])
def m_law : MS := (sSeq (sDrop (sFor (.nm 1) (mIt itR1 (mBi max2D [(mC (.int 2)), (mBi min2D [(mC (.int 3)), (mBi lenD [(mVar 0)])])])) b_law_2) [1, 2, 3, 4, 5, 6, 7, 8])
  (sRet (mC (.bl true))))
def Z_law : Fn := runF (fun i => [0].contains i) 1 9 m_law
theorem sc_law : FnScope N_law ["_law_script"] (defScope (top 46)) := ⟨rfl, rfl, rfl, by decide +kernel, rfl, by decide +kernel, by decide +kernel⟩
theorem o_law (F : Fx w K mg) (B : Bx K mg base) : ∃ fd, FunD K "law" "law" (defArgs (top 46)) (defBody (top 46)) (defScope (top 46)) (d_law.dvs K) (d_law.kws K) (He.ga K "law") fd ∧ FO P w K mg base (tb K) 8 (He.ga K "law") fd ["_law_script"] Z_law 1 := by
  obtain ⟨fd, hf⟩ := fd_law F
  refine ⟨fd, hf, fn_F hf sc_law (fun i => [0].contains i) rfl rfl _ (fun _ _ => rfl) fun cdv A outer s H E hc hci hr hu => ?_⟩
  have cdE := code_of hf hc hci
  have tk : Takes (cxOf (L2.CX P w) P w K mg base N_law "law" (defScope (top 46)) (He.ga K "law") cdv A outer s H E) (fun cls d _ H => E cls d H) := takes_of rfl rfl rfl rfl
  have nd : N_law.Nodup := sc_law.nd
  have h52 := un52 hr
  have h9 : ∀ d v H, ¬ (tb K).ex 9 d v H := no9
  exact (sss_cons (ss_drop [1, 2, 3, 4, 5, 6, 7, 8] (ss_for (passes_of rfl) rfl (si_rng1 rfl (n_range F) (se_bi (call_max2 rfl) b_max2 rfl (n_max F) boot_max (sa_cons se_int (sa_cons (se_bi (call_min2 rfl) b_min2 rfl (n_min F) boot_min (sa_cons se_int (sa_cons (se_bi call_lenV b_len rfl (n_len F) boot_len (sa_cons (se_var (pv 0)) sa_nil)) sa_nil))) sa_nil)))) (sg_name (i := 1) rfl nd rfl (by first | exact Or.inl rfl | exact Or.inr rfl)) (sss_drop [1, 2, 3, 4, 5, 6, 7, 8] (sss_cons (ss_set (i := 2) rfl nd rfl (by first | exact Or.inl rfl | exact Or.inr rfl) (se_fn (G__law_bag F B) hr hu tk [] (sa_cons (se_var (pv 0)) (sa_cons (se_var (pv 1)) sa_nil))))
  (sss_one (ss_drop [3, 4, 5, 6, 7, 8] (ss_for (passes_of rfl) rfl (si_rng1 rfl (n_range F) se_int) (sg_name (i := 3) rfl nd rfl (by first | exact Or.inl rfl | exact Or.inr rfl)) (sss_drop [3, 4, 5, 6, 7, 8] (sss_cons (ss_set (i := 4) rfl nd rfl (by first | exact Or.inl rfl | exact Or.inr rfl) (se_fn (G__law_text F B) hr hu tk [.bo, .lk, .lk] (sa_cons (se_var (pv 2)) (sa_cons (se_fn (G__law_of F B) hr hu tk [.bo, .lk] (sa_cons (se_var (pv 2)) (sa_cons (se_lst (sd_cons (se_str (l := [76, 82, 65, 68, 83, 84, 78])) (sd_cons (se_str (l := [68, 83, 84, 78])) (sd_cons (se_str (l := [68, 84])) (sd_cons (se_str (l := [83, 84])) (sd_cons (se_str (l := [65, 68, 84])) (sd_cons (se_str (l := [84, 78])) (sd_cons (se_str (l := [83, 68])) sd_nil)))))))) sa_nil))) (sa_cons se_int sa_nil)))))
  (sss_cons (ss_par (i := 5) (j := 6) rfl rfl rfl nd rfl rfl (by decide) rfl rfl (so_cons (se_lc (own := [("_law_one", 9)]) rfl nd (si_str (se_var (pv 4))) (blkOk_by (own := [("_law_one", 9)]) (N := N_law) (sc := defScope (top 46)) (by decide +kernel)) (fun _ _ _ _ _ => (sg_name (i := 9) rfl nd rfl (by first | exact Or.inl rfl | exact Or.inr rfl))) (fun _ _ _ _ _ => sts_nil) (fun _ _ _ _ _ => (se_fn (G__law_word F B) hr hu no_takes [] (sa_cons (se_var (pv 9)) sa_nil)))) (so_cons (se_lst sd_nil) so_nil)) (by rfl))
  (sss_cons (ss_set (i := 7) rfl nd rfl (by first | exact Or.inl rfl | exact Or.inr rfl) (se_fn (G_effect F B) hr hu tk [] (sa_cons (se_var (pv 4)) sa_nil)))
  (sss_cons (ss_drop [8] (ss_for (passes_of rfl) rfl (si_list (se_fn0 (G_states F B) hr hu tk)) (sg_name (i := 8) rfl nd rfl (by first | exact Or.inl rfl | exact Or.inr rfl)) (sss_drop [8] (sss_one (ss_exp (se_mut1 (i := 6) PySem.F.slot_list_append PySem.F.type_list_append mt_append m_app (pv 6) (se_tup (sd_cons (se_fn (G__law_neutral F B) hr hu tk [] (sa_cons (se_var (pv 8)) (sa_cons (se_var (pv 5)) sa_nil))) (sd_cons (se_fn (G__law_waiting F B) hr hu tk [] (sa_cons (se_var (pv 8)) (sa_cons (se_var (pv 5)) sa_nil))) sd_nil)))))))))
  (sss_one (ss_if (sb_cmp (op_neP hr.units) v_ne (se_bi (call_reprZ hu h52) b_reprZ rfl (n_repr F) boot_repr (sa_cons (se_lc (own := [("_law_one", 9)]) rfl nd (si_list (se_var (pv 7))) (blkOk_by (own := [("_law_one", 9)]) (N := N_law) (sc := defScope (top 46)) (by decide +kernel)) (fun _ _ _ _ _ => (sg_name (i := 9) rfl nd rfl (by first | exact Or.inl rfl | exact Or.inr rfl))) (fun _ _ _ _ _ => sts_nil) (fun _ _ _ _ _ => (se_slT (se_var (pv 9)) (spt_some se_int) spt_none))) sa_nil)) (se_bi (call_reprZ hu h52) b_reprZ rfl (n_repr F) boot_repr (sa_cons (se_var (pv 6)) sa_nil)) (nomark _)) (sss_one (ss_ret se_bl)) sss_nil))))))))))))))
  (sss_one (ss_ret se_bl)))
end
end F
end

section
set_option linter.all false
set_option autoImplicit false
set_option maxRecDepth 100000
/-! running plain defs: loops, comprehensions -/
namespace F
theorem for_cons {t : Tg} {body : MS} {d : F.D} {ds : List F.D} {e e1 e2 : Env} (h1 : t.put d e = some e1) (h2 : body e1 = .nx e2) : forL t body (d :: ds) e = forL t body ds e2 := by simp only [forL, h1, h2]
theorem for_consR {t : Tg} {body : MS} {d : F.D} {ds : List F.D} {e e1 e2 : Env} {o : O} (h1 : t.put d e = some e1) (h2 : body e1 = .rt o e2) : forL t body (d :: ds) e = .rt o e2 := by simp only [forL, h1, h2]
/-- a loop that turns s -/
theorem for_fold {α σ : Type} {enc : α → F.D} {g : σ → Env} {step : σ → α → σ} {I : σ → Prop} {t : Tg} {body : MS} : ∀ {as : List α} {s : σ}, (∀ s, ∀ a ∈ as, I s → (∃ e1, t.put (enc a) (g s) = some e1 ∧ body e1 = .nx (g (step s a))) ∧ I (step s a)) → I s →
    forL t body (as.map enc) (g s) = .nx (g (as.foldl step s)) ∧ I (as.foldl step s)
  | [], s, _, hI => ⟨rfl, hI⟩
  | a :: as, s, h, hI => by
    obtain ⟨⟨e1, h1, h2⟩, h3⟩ := h s a (List.mem_cons_self ..) hI
    rw [List.map_cons, for_cons h1 h2]
    exact for_fold (fun s b hb => h s b (List.mem_cons_of_mem _ hb)) h3
/-- a loop that keeps an invariant of the names -/
theorem for_inv {I : Env → Prop} {t : Tg} {body : MS} : ∀ {ds : List F.D} {e : Env}, (∀ d ∈ ds, ∀ e, I e → ∃ e1 e2, t.put d e = some e1 ∧ body e1 = .nx e2 ∧ I e2) → I e → ∃ e', forL t body ds e = .nx e' ∧ I e'
  | [], e, _, h => ⟨e, rfl, h⟩
  | d :: ds, e, hs, h => by
    obtain ⟨e1, e2, h1, h2, h3⟩ := hs d (List.mem_cons_self ..) e h
    rw [for_cons h1 h2]
    exact for_inv (fun d hd => hs d (List.mem_cons_of_mem _ hd)) h3
/-- one turn of a comprehension -/
def lcOne (own : List Nat) (t : Tg) (c : M Bool) (v : M F.R) (d : F.D) (e : Env) : Option (Option F.D × Env) := match t.put d e with
  | some e1 => (match c e1 with
    | .ok true e2 => (match v e2 with
      | .ok r e3 => (match leak r e3 with
        | .ok x e4 => some (some x, wipeE e4 own)
        | _ => none)
      | _ => none)
    | .ok false e2 => some (none, wipeE e2 own)
    | _ => none)
  | none => none
theorem lc_eq {own : List Nat} {t : Tg} {c : M Bool} {v : M F.R} {d : F.D} {ds acc : List F.D} {e e' : Env} {o : Option F.D} (h : lcOne own t c v d e = some (o, e')) : lcL own t c v (d :: ds) acc e = lcL own t c v ds (acc ++ o.toList) e' := by
  unfold lcOne at h
  conv => lhs; unfold lcL
  cases h1 : t.put d e with
  | none => rw [h1] at h; cases h
  | some e1 =>
    rw [h1] at h
    dsimp only at h ⊢
    cases h2 : c e1 with
    | ok b e2 =>
      rw [h2] at h
      cases b with
      | true =>
        dsimp only at h ⊢
        cases h3 : v e2 with
        | ok r e3 =>
          rw [h3] at h
          dsimp only at h ⊢
          cases h4 : leak r e3 with
          | ok x e4 =>
            rw [h4] at h
            cases h
            rfl
          | ex => rw [h4] at h; cases h
          | bad => rw [h4] at h; cases h
        | ex => rw [h3] at h; cases h
        | bad => rw [h3] at h; cases h
      | false =>
        cases h
        show lcL own t c v ds acc _ = _
        rw [show (none : Option F.D).toList = [] from rfl, List.append_nil]
    | ex => rw [h2] at h; cases h
    | bad => rw [h2] at h; cases h
theorem lc_fm {α : Type} {enc : α → F.D} {own : List Nat} {t : Tg} {c : M Bool} {v : M F.R} {e : Env} {f : α → Option F.D} : ∀ {as : List α} {acc : List F.D}, (∀ a ∈ as, lcOne own t c v (enc a) e = some (f a, e)) → lcL own t c v (as.map enc) acc e = .ok (acc ++ as.filterMap f) e
  | [], acc, _ => by simp [lcL]
  | a :: as, acc, h => by
    rw [List.map_cons, lc_eq (h a (List.mem_cons_self ..)), lc_fm fun b hb => h b (List.mem_cons_of_mem _ hb), List.filterMap_cons]
    cases f a <;> simp
/-- .. every item kept -/
theorem lc_map {α : Type} {enc : α → F.D} {own : List Nat} {t : Tg} {c : M Bool} {v : M F.R} {e : Env} {f : α → F.D} {as : List α} {acc : List F.D} (h : ∀ a ∈ as, lcOne own t c v (enc a) e = some (some (f a), e)) : lcL own t c v (as.map enc) acc e = .ok (acc ++ as.map f) e := by
  rw [lc_fm (f := fun a => some (f a)) h]
  simp
/-! items -/
theorem rngF_map (lo : Int) : ∀ n, rngF lo n = (List.range n).map fun i => F.D.int (lo + (i : Nat))
  | 0 => rfl
  | n + 1 => by
    rw [List.range_succ_eq_map]
    simp only [rngF, List.map_cons, List.map_map, rngF_map (lo + 1) n]
    congr 1
    · simp
    · apply List.map_congr_left
      intro i _
      simp only [Function.comp_apply]
      congr 1
      omega
theorem pls_all {l : List F.D} (h : ∀ d ∈ l, d.pl = true) : pls l = true := by
  induction l with
  | nil => rfl
  | cons a l ih =>
    show (a.pl && pls l) = true
    rw [h a (List.mem_cons_self ..), ih fun d hd => h d (List.mem_cons_of_mem _ hd)]
    rfl
theorem dps_all {l : List F.D} {n : Nat} (h : ∀ d ∈ l, d.dp ≤ n) : dps l ≤ n := by
  induction l with
  | nil => exact Nat.zero_le _
  | cons a l ih => exact Nat.max_le.mpr ⟨h a (List.mem_cons_self ..), ih fun d hd => h d (List.mem_cons_of_mem _ hd)⟩
/-- a list beside the empty one -/
theorem cmp_nil {l : List F.D} (h : pls l = true) : cmpOk (.lst l) (.lst []) = true := by
  unfold cmpOk
  rw [show (F.D.lst l).pl = pls l from rfl, h, show decide ((F.D.lst []).dp ≤ 50) = true from rfl, Bool.or_true]
  rfl
theorem eq_nil {l : List F.D} (h : pls l = true) : eqD (.lst l) (.lst []) = some (.bl l.isEmpty) := by
  unfold eqD
  rw [cmp_nil h]
  cases l <;> rfl
mutual
theorem eqB_refl : ∀ d : F.D, d.pl = true → eqB d d = true
  | .non, _ => rfl
  | .bl b, _ => by simp [eqB]
  | .int i, _ => by simp [eqB]
  | .str x, _ => by simp [eqB]
  | .tup l, h => eqBs_refl l h
  | .lst l, h => eqBs_refl l h
  | .dct _, h => by cases h
  | .obj _ _, h => by cases h
  | .ex _ _, h => by cases h
theorem eqBs_refl : ∀ l : List F.D, pls l = true → eqBs l l = true
  | [], _ => rfl
  | d :: l, h => by
    have h : (d.pl && pls l) = true := h
    rw [Bool.and_eq_true] at h
    show (eqB d d && eqBs l l) = true
    rw [eqB_refl d h.1, eqBs_refl l h.2]
    rfl
end
theorem getI_nat {α : Type} {l : List α} {r : Int} (h0 : 0 ≤ r) (h1 : r < l.length) : ∃ c, c ∈ l ∧ getI l r = some c := by
  have hr : r.toNat < l.length := by omega
  refine ⟨l[r.toNat], List.getElem_mem hr, ?_⟩
  unfold getI ixI
  rw [if_pos h0, if_pos h1]
  show l[r.toNat]? = _
  rw [List.getElem?_eq_getElem hr]
theorem getI_last {α : Type} (l : List α) (d : α) : getI (l ++ [d]) (-1) = some d := by
  unfold getI ixI
  rw [if_neg (by decide), if_pos (by simp; omega)]
  show (l ++ [d])[(-1 + ((l ++ [d]).length : Int)).toNat]? = _
  have : (-1 + ((l ++ [d]).length : Int)).toNat = l.length := by simp; omega
  rw [this]
  simp
end F
end

section
set_option linter.all false
set_option autoImplicit false
set_option maxRecDepth 100000
/-! facts for running plain defs, for every law -/
namespace F
abbrev bg (a m : Int) : O := .fl [.int a, .int m]
theorem ixI20 : ixI 2 0 = some 0 := rfl
theorem ixI21 : ixI 2 1 = some 1 := rfl
theorem bg0 (a m : Int) : ixD (.lst [.int a, .int m]) (.int 0) = some (.int a) := rfl
theorem bg1 (a m : Int) : ixD (.lst [.int a, .int m]) (.int 1) = some (.int m) := rfl
theorem int_int (i : Int) : intD [.int i] = some (.int i) := rfl
theorem int_bl (b : Bool) : intD [.bl b] = some (.int (if b then 1 else 0)) := rfl
theorem add_int (i j : Int) : addD (.int i) (.int j) = some (.int (i + j)) := rfl
theorem sub_int (i j : Int) : subD (.int i) (.int j) = some (.int (i - j)) := rfl
theorem mod_ok (i j : Int) (h : 0 < j) : modD (.int i) (.int j) = some (.int (i % j)) := if_pos h
theorem div_ok (i j : Int) (h : 0 < j) (h2 : j < 1073741824) : divD (.int i) (.int j) = some (.int (i / j)) := if_pos ⟨h, h2⟩
theorem mulOk_r (i j : Int) (h : -18446744073709551616 < j) (h2 : j < 18446744073709551616) : mulD (.int i) (.int j) = some (.int (i * j)) := if_pos (by simp [mulOk, h, h2])
theorem mulOk_l (i j : Int) (h : -18446744073709551616 < i) (h2 : i < 18446744073709551616) : mulD (.int i) (.int j) = some (.int (i * j)) := if_pos (by simp [mulOk, h, h2])
theorem lt_int (i j : Int) : ltD (.int i) (.int j) = some (.bl (decide (i < j))) := rfl
theorem gt_int (i j : Int) : gtD (.int i) (.int j) = some (.bl (decide (j < i))) := rfl
theorem ge_int (i j : Int) : geD (.int i) (.int j) = some (.bl (decide (j ≤ i))) := rfl
theorem eq_int (i j : Int) : eqD (.int i) (.int j) = some (.bl (i == j)) := rfl
theorem ne_strs (x y : List Nat) : neD (.str x) (.str y) = some (.bl (!(x == y))) := rfl
theorem abs_int (i : Int) : absD [.int i] = some (.int (if i < 0 then -i else i)) := rfl
theorem pow18 : powD (.int 10) (.int 18) = some (.int 1000000000000000000) := by rfl
theorem max_int (i j : Int) : max2D [.int i, .int j] = some (.int (if j > i then j else i)) := rfl
theorem min_int (i j : Int) : min2D [.int i, .int j] = some (.int (if j < i then j else i)) := rfl
theorem len_str (x : List Nat) : lenD [.str x] = some (.int (x.length : Nat)) := rfl
theorem len_lst (l : List F.D) : lenD [.lst l] = some (.int (l.length : Nat)) := rfl
def chD (c : Nat) : F.D := .str [c]
theorem itS_x (x : List Nat) : itS (.str x) = some (x.map chD) := rfl
theorem itES_x (x : List Nat) : itES (.str x) = some (enumF 0 (x.map chD)) := rfl
theorem lc_none {own : List Nat} {t : Tg} {c : M Bool} {v : M F.R} {e : Env} : ∀ {ds acc : List F.D}, (∀ d ∈ ds, lcOne own t c v d e = some (none, e)) → lcL own t c v ds acc e = .ok acc e
  | [], acc, _ => rfl
  | d :: ds, acc, h => by
    rw [lc_eq (h d (List.mem_cons_self ..))]
    simp only [Option.toList, List.append_nil]
    exact lc_none fun b hb => h b (List.mem_cons_of_mem _ hb)
theorem mem_enum {d : F.D} : ∀ {l : List F.D} {n : Nat}, d ∈ enumF n l → ∃ (i : Int) (a : F.D), a ∈ l ∧ d = .tup [.int i, a]
  | [], n, h => by cases h
  | x :: l, n, h => by
    rcases List.mem_cons.mp h with rfl | h
    · exact ⟨_, x, List.mem_cons_self .., rfl⟩
    · obtain ⟨i, a, ha, e⟩ := mem_enum h
      exact ⟨i, a, List.mem_cons_of_mem _ ha, e⟩
theorem joinN_1 : ∀ x : List Nat, joinN [] (x.map fun c => [c]) = x
  | [] => rfl
  | [k] => rfl
  | k :: q :: x => by
    have := joinN_1 (q :: x)
    show [k] ++ ([] ++ joinN [] ((q :: x).map fun k => [k])) = _
    rw [this]
    rfl
theorem sum_1 : ∀ x : List Nat, ((x.map fun k => [k]).map List.length).sum = x.length
  | [] => rfl
  | k :: x => by
    have := sum_1 x
    simp only [List.map_cons, List.sum_cons, List.length_cons, List.length_nil] at this ⊢
    omega
theorem strs_1 : ∀ x : List Nat, strsOf (x.map chD) = some (x.map fun c => [c])
  | [] => rfl
  | c :: x => by
    show (strsOf (x.map chD)).map ([c] :: ·) = _
    rw [strs_1 x]
    rfl
theorem join_1 (x : List Nat) (h : x.length ≤ 1000000) : joinD (.str []) (.lst (x.map chD)) = some (.str x) := by
  show ((strsOf (x.map chD)).bind fun xs => if (xs.map List.length).sum + xs.length * 0 ≤ F.lim then some (F.D.str (joinN [] xs)) else none) = _
  rw [strs_1]
  show (if ((x.map fun k => [k]).map List.length).sum + _ * 0 ≤ F.lim then some (F.D.str (joinN [] (x.map fun k => [k]))) else none) = _
  rw [sum_1, Nat.mul_zero, Nat.add_zero, if_pos (Nat.le_trans h (by decide)), joinN_1]
theorem cut_to {α : Type} (l : List α) (c : Nat) (h : c ≤ l.length) : cut l none (some (c : Int)) = l.take c := by
  unfold cut
  have h1 : cutI l.length l.length (some (c : Int)) = c := by
    show (if (c : Int) < 0 then ((c : Int) + (l.length : Int)).toNat else min (c : Int).toNat l.length) = _
    rw [if_neg (by omega)]
    omega
  rw [h1]
  rfl
theorem cut_fr {α : Type} (l : List α) (c : Nat) (h : c ≤ l.length) : cut l (some (c : Int)) none = l.drop c := by
  unfold cut
  have h1 : cutI l.length 0 (some (c : Int)) = c := by
    show (if (c : Int) < 0 then ((c : Int) + (l.length : Int)).toNat else min (c : Int).toNat l.length) = _
    rw [if_neg (by omega)]
    omega
  rw [h1, show cutI l.length l.length none = l.length from rfl]
  exact List.take_of_length_le (by rw [List.length_drop]; omega)
end F
end

section
set_option linter.all false
set_option autoImplicit false
set_option maxRecDepth 100000
/-! lists as tables of functions; runs of places -/
namespace F
def tab (n : Nat) (f : Nat → F.D) : List F.D := (List.range n).map f
theorem tab_len (n : Nat) (f : Nat → F.D) : (tab n f).length = n := by simp [tab]
theorem tab_succ (n : Nat) (f : Nat → F.D) : tab (n + 1) f = tab n f ++ [f n] := by simp [tab, List.range_succ]
theorem tab_get {n i : Nat} (f : Nat → F.D) (h : i < n) : (tab n f)[i]? = some (f i) := by simp [tab, List.getElem?_map, List.getElem?_range h]
theorem tab_none {n i : Nat} (f : Nat → F.D) (h : n ≤ i) : (tab n f)[i]? = none := by rw [List.getElem?_eq_none]; rw [tab_len]; exact h
theorem tab_congr {n : Nat} {f g : Nat → F.D} (h : ∀ i, i < n → f i = g i) : tab n f = tab n g := by
  unfold tab
  exact List.map_congr_left fun i hi => h i (List.mem_range.mp hi)
theorem tab_of {l : List F.D} {n : Nat} {f : Nat → F.D} (hl : l.length = n) (h : ∀ i, i < n → l[i]? = some (f i)) : l = tab n f := by
  apply List.ext_getElem?
  intro i
  by_cases hi : i < n
  · rw [h i hi, tab_get f hi]
  · rw [tab_none f (by omega), List.getElem?_eq_none]
    omega
theorem enum_app (l : List F.D) (d : F.D) : ∀ n, enumF n (l ++ [d]) = enumF n l ++ [.tup [.int ((n + l.length : Nat)), d]] := by
  induction l with
  | nil => intro n; rfl
  | cons a l ih =>
    intro n
    rw [List.cons_append, enumF, enumF, ih]
    simp only [List.length_cons, List.cons_append, List.cons.injEq, true_and]
    rw [show n + 1 + l.length = n + (l.length + 1) by omega]
theorem enum_tab (n : Nat) (f : Nat → F.D) : enumF 0 (tab n f) = (List.range n).map fun i => F.D.tup [.int (i : Nat), f i] := by
  induction n with
  | zero => rfl
  | succ n ih => rw [tab_succ, enum_app, ih, List.range_succ, List.map_append, tab_len, Nat.zero_add]; rfl
theorem ix_tab {n i : Nat} (f : Nat → F.D) (h : i < n) : ixD (.lst (tab n f)) (.int (i : Nat)) = some (f i) := by
  show getI (tab n f) (i : Int) = _
  unfold getI ixI
  rw [if_pos (by omega), if_pos (by rw [tab_len]; omega)]
  show (tab n f)[((i : Nat) : Int).toNat]? = _
  rw [Int.toNat_natCast, tab_get f h]
theorem ix_tabP {n i : Nat} (f : Nat → F.D) (h0 : 0 < i) (h : i ≤ n) : ixD (.lst (tab n f)) (.int ((i : Nat) - 1 : Int)) = some (f (i - 1)) := by
  rw [show ((i : Nat) : Int) - 1 = ((i - 1 : Nat) : Int) by omega]
  exact ix_tab f (by omega)
theorem set_tab {n i : Nat} (f : Nat → F.D) (v : F.D) (h : i < n) : (tab n f).set i v = tab n fun j => if j = i then v else f j := tab_of (by rw [List.length_set, tab_len]) fun j hj => by
  rw [List.getElem?_set, tab_len]
  by_cases e : i = j
  · subst e
    rw [if_pos rfl, if_pos h, if_pos rfl]
  · rw [if_neg e, tab_get f hj, if_neg fun z => e z.symm]
theorem take_tab {n i : Nat} (f : Nat → F.D) (h : i ≤ n) : (tab n f).take i = tab i f := tab_of (by rw [List.length_take, tab_len]; omega) fun j hj => by
  rw [List.getElem?_take, if_pos hj, tab_get f (by omega)]
theorem zip_same {l : List Nat} {f h : Nat → F.D} : zipF (l.map f) (l.map h) = l.map fun i => F.D.tup [f i, h i] := by
  induction l with
  | nil => rfl
  | cons a l ih => rw [List.map_cons, List.map_cons, zipF, ih]; rfl
/-- a loop over the first n numbers, or over what they tell -/
theorem for_rng {t : Tg} {body : MS} {g : Nat → Env} {enc : Nat → F.D} {n : Nat} (h : ∀ i, i < n → ∃ e1, t.put (enc i) (g i) = some e1 ∧ body e1 = .nx (g (i + 1))) : forL t body ((List.range n).map enc) (g 0) = .nx (g n) := by
  have go : ∀ k i, i + k = n → forL t body ((List.range' i k).map enc) (g i) = .nx (g n) := by
    intro k
    induction k with
    | zero =>
      intro i e
      rw [show n = i by omega]
      rfl
    | succ k ih =>
      intro i e
      obtain ⟨e1, h1, h2⟩ := h i (by omega)
      rw [List.range'_succ, List.map_cons, for_cons h1 h2]
      exact ih (i + 1) (by omega)
  have := go n 0 (by omega)
  rw [List.range_eq_range']
  exact this
/-- .. from a to b -/
theorem for_rng2 {t : Tg} {body : MS} {g : Nat → Env} {enc : Nat → F.D} {a n : Nat} (h : ∀ i, a ≤ i → i < a + n → ∃ e1, t.put (enc i) (g i) = some e1 ∧ body e1 = .nx (g (i + 1))) : forL t body ((List.range' a n).map enc) (g a) = .nx (g (a + n)) := by
  induction n generalizing a with
  | zero => rfl
  | succ n ih =>
    obtain ⟨e1, h1, h2⟩ := h a (by omega) (by omega)
    rw [List.range'_succ, List.map_cons, for_cons h1 h2]
    have := ih (a := a + 1) fun i q1 q2 => h i (by omega) (by omega)
    rw [show a + 1 + n = a + (n + 1) by omega] at this
    exact this
theorem rngF_r (a : Nat) : ∀ n, rngF (a : Nat) n = (List.range' a n).map fun i => F.D.int (i : Nat) := by
  intro n
  induction n generalizing a with
  | zero => rfl
  | succ n ih =>
    rw [List.range'_succ, List.map_cons, rngF, ← ih (a + 1)]
    rfl
/-! ### runs -/
def lo (p : Nat → Bool) : Nat → Nat
  | 0 => 0
  | i + 1 => if p i = true then lo p i else i + 1
def opn (p : Nat → Bool) : Nat → Bool
  | 0 => false
  | i + 1 => p i
def runs (p : Nat → Bool) : Nat → List (Nat × Nat)
  | 0 => []
  | i + 1 => if p i = true then runs p i else if opn p i = true then runs p i ++ [(lo p i, i)] else runs p i
end F
end

section
set_option linter.all false
set_option autoImplicit false
set_option maxRecDepth 100000
/-! find, rfind of one sign -/
namespace F.Kn
open PySem PySem.StrLaws Builtin Builtin.Str
end F.Kn
end

section
set_option linter.all false
set_option autoImplicit false
set_option maxRecDepth 100000
/-! kinds: classes, states, what a text does (plain) -/
namespace F.Kn
inductive Kd where | L | R | A | D | S | T | N
  deriving DecidableEq
def Kd.c : Kd → Nat | .L => 76 | .R => 82 | .A => 65 | .D => 68 | .S => 83 | .T => 84 | .N => 78
def Kd.d (k : Kd) : F.D := .str [k.c]
inductive Sg where | L | R | A
  deriving DecidableEq
def Sg.c : Sg → Nat | .L => 76 | .R => 82 | .A => 65
inductive Tl where | e | digit | joined | run | sign
  deriving DecidableEq
def Tl.c : Tl → List Nat | .e => [] | .digit => [100, 105, 103, 105, 116] | .joined => [106, 111, 105, 110, 101, 100] | .run => [114, 117, 110] | .sign => [115, 105, 103, 110]
structure Sx where
  s : Sg
  t : Tl
  deriving DecidableEq
def Sx.d (x : Sx) : F.D := .tup [.str [x.s.c], .str x.t.c]
def Sx.nx (x : Sx) : Kd → Sx
  | .L => ⟨.L, .e⟩
  | .R => ⟨.R, .e⟩
  | .A => ⟨.A, .e⟩
  | .D => ⟨x.s, .digit⟩
  | .S => ⟨x.s, if x.t = .digit then .sign else .e⟩
  | .T => ⟨x.s, if (x.t = .digit ∨ x.t = .joined) ∧ x.s ≠ .A then .joined else .run⟩
  | .N => ⟨x.s, .e⟩
def Sx.fold (x : Sx) (ws : List Kd) : Sx := ws.foldl Sx.nx x
def Sx.ok (x : Sx) : Bool := !(decide (x.s = .A) && decide (x.t = .joined))
theorem Sx.fold_app (x : Sx) (a b : List Kd) : x.fold (a ++ b) = (x.fold a).fold b := List.foldl_append
def all14 : List Sx := [⟨.A, .e⟩, ⟨.A, .digit⟩, ⟨.A, .run⟩, ⟨.A, .sign⟩, ⟨.L, .e⟩, ⟨.L, .digit⟩, ⟨.L, .joined⟩, ⟨.L, .run⟩, ⟨.L, .sign⟩, ⟨.R, .e⟩, ⟨.R, .digit⟩, ⟨.R, .joined⟩, ⟨.R, .run⟩, ⟨.R, .sign⟩]
/-! what waits -/
inductive Lt where | N | S | T
  deriving DecidableEq
def Lt.d : Lt → F.D | .N => .str [78] | .S => .str [83] | .T => .str [84]
inductive Fr where | dig | i0 | i1 | l (x : Lt)
  deriving DecidableEq
def Fr.d : Fr → F.D | .dig => .str [100, 105, 103, 105, 116] | .i0 => .int 0 | .i1 => .int 1 | .l x => x.d
def dirF : Sg → Fr | .L => .i0 | _ => .i1
def toldF (s : Sg) : Kd → Fr
  | .L => .i0
  | .R => .i1
  | .A => .i1
  | .D => dirF s
  | _ => .l .N
def fateF : Lt → Sg → Kd → Fr
  | .S, _, .D => .dig
  | .T, .L, .D => .dig
  | .T, .R, .D => .dig
  | .T, _, .T => .l .T
  | _, s, k => toldF s k
def fwF : Lt → Sx → List Kd → Fr
  | l, _, [] => .l l
  | l, st, k :: ws => match fateF l st.s k with
    | .l x => fwF x (st.nx k) ws
    | r => r
theorem fw_app : ∀ (a b : List Kd) (l : Lt) (st : Sx), fwF l st (a ++ b) = match fwF l st a with
    | .l x => fwF x (st.fold a) b
    | r => r
  | [], b, l, st => rfl
  | k :: a, b, l, st => by
    show (match fateF l st.s k with
      | .l x => fwF x (st.nx k) (a ++ b)
      | r => r) = (match (match fateF l st.s k with
        | .l x => fwF x (st.nx k) a
        | r => r) with
      | .l x => fwF x ((st.nx k).fold a) b
      | r => r)
    cases h : fateF l st.s k with
    | l x => exact fw_app a b x (st.nx k)
    | _ => rfl
/-- the entry of a state -/
def neuF (st : Sx) (ws : List Kd) : Option Fr := if st.t = .e ∨ st.t = .run then (match fwF .N st ws with | .l .N => none | r => some r) else none
def waiF (st : Sx) (ws : List Kd) : Option Fr := if st.t = .run ∨ st.t = .sign then (match fwF (if st.t = .sign then .S else .T) st ws with | .l .S => none | .l .T => none | r => some r) else none
def oD : Option Fr → F.D
  | none => .non
  | some r => r.d
def entD (st : Sx) (ws : List Kd) : F.D := .tup [(st.fold ws).d, oD (neuF st ws), oD (waiF st ws)]
/-! the lead -/
def Kd.st : Kd → Bool | .L | .R | .A => true | _ => false
/-! least texts -/
/-- what stands ahead of the first digit of a weak text -/
inductive Hd where | no | z | tz | nz
  deriving DecidableEq
def Hd.c : Hd → List Nat | .no => [] | .z => [48] | .tz => [35, 48] | .nz => [32, 48]
/-- weak texts without digits -/
inductive Wk where | emp | s1 | ts | nt | n
  deriving DecidableEq
def Wk.c : Wk → List Nat | .emp => [] | .s1 => [44] | .ts => [35] | .nt => [32, 35] | .n => [32]
/-- the kinds -/
inductive Q where
  | w (k : Wk) | d (h : Hd) (t : Tl) | s (h : Hd) (f l : Sg) (t : Tl)
  deriving DecidableEq
def Wk.hd : Wk → Hd | .emp => .z | .ts => .tz | _ => .nz
def Sg.of : Kd → Sg | .R => .R | .A => .A | _ => .L
def Q.nx : Q → Kd → Q
  | .w k, .D => .d k.hd .digit
  | .w .emp, .S => .w .s1
  | .w .emp, .T => .w .ts
  | .w .ts, .T => .w .ts
  | .w _, .T => .w .nt
  | .w _, .S => .w .n
  | .w _, .N => .w .n
  | .d h t, .L => .s h .L .L .e
  | .d h t, .R => .s h .R .R .e
  | .d h t, .A => .s h .R .A .e
  | .d h t, k => .d h ((Sx.mk .L t).nx k).t
  | .w _, .L => .s .no .L .L .e
  | .w _, .R => .s .no .R .R .e
  | .w _, .A => .s .no .R .A .e
  | .s h f l t, k => .s h f ((Sx.mk l t).nx k).s ((Sx.mk l t).nx k).t
def Q.run (w : List Kd) : Q := w.foldl Q.nx (.w .emp)

def Sg.lc : Sg → Nat | .L => 43 | .R => 42 | .A => 78
def Tl.beh : Tl → List Nat | .e => [32] | .digit => [] | .sign => [44] | .joined => [35] | .run => [32, 35]
def Tl.fin : Tl → List Nat | .e => [] | .digit => [48] | .sign => [48, 44] | .joined => [48, 35] | .run => [35]
def ltrs (f l : Sg) : List Nat := if decide (f = .L) = decide (l = .L) then [l.lc] else [if f = .L then 43 else 42, l.lc]
def Q.least : Q → List Nat
  | .w k => k.c
  | .d h t => h.c ++ t.beh
  | .s h f l t => h.c ++ ltrs f l ++ t.fin
def Q.ok : Q → Bool
  | .w _ => true
  | .d h _ => !decide (h = .no)
  | .s _ f l t => !decide (f = .A) && (Sx.mk l t).ok
/-! letters that the law draws -/
def alpha : List Nat := [97, 98, 120, 122, 43, 65, 66, 77, 42, 78, 81, 90, 48, 49, 55, 57, 44, 46, 58, 36, 35, 32, 33, 45, 40, 93, 50, 51, 99]
def kd (c : Nat) : Kd := if [48, 49, 50, 51, 55, 57].contains c then .D else if [44, 46, 58].contains c then .S else if [36, 35].contains c then .T else if [32, 33, 45, 40, 93].contains c then .N else if [97, 98, 99, 120, 122, 43].contains c then .L else if [78, 81, 90].contains c then .A else .R
def hds : List Hd := [.no, .z, .tz, .nz]
def Q.fold (q : Q) (w : List Kd) : Q := w.foldl Q.nx q
/-- the classes of a kind's least text -/
def Q.lw (q : Q) : List Kd := q.least.map kd
end F.Kn
end

section
set_option linter.all false
set_option autoImplicit false
set_option maxRecDepth 100000
/-! kinds: the program's least text is the kind's -/
namespace F.Kn
end F.Kn
end

section
set_option linter.all false
set_option autoImplicit false
set_option maxRecDepth 100000
set_option maxHeartbeats 1000000
/-! kinds: the program's defs -/
namespace F.Kn
local macro_rules | `(tactic| simp_arith [$ls,*] $[$loc]?) => `(tactic| simp only [runF, gdO, finR, endF, allO, sSeq, sSet, setR, sOf, leak, mNextS, andThen, mVar, mC, slot, peek, peeks, nrm, O.pk, O.frz, mIf, mTB, mTru, mAnd, mOr, mNot, mOp1, mOp2, mOl1, mOl2, mTup, mLst, mLks, mDct, mDvs, mBi, mBl, mRs, mSm0, mSm1, mSl, mSlL, mPt, mIt, mItZ, zipR, mCall, asArgs, asArg, back, ofRes, mergeO, ofO, ofOS, sIf, sRet, sRetN, sPass, sExp, sAug, sUnp, sPar, sAsg2, sSto, sBrk, sCnt, sFor, sDrop, sMatch, mtL, mOs, setAll, sPut, mItK, mMut0, mMut1, wipeE, unwipe, lcEnd, mLc, mYes, mItS, mItR, mChain, mStar, mLstD, sSlSto, mCallV, mGet2, zipS, mBad, sBad, mNotV, mAndV, mOrV, Tg.put, putAll, List.map_cons, List.map_nil, List.replicate, List.cons_append, List.nil_append, List.getElem?_cons_zero, List.getElem?_cons_succ, Option.bind_some, List.set_cons_zero, List.set_cons_succ, List.take_succ_cons, List.take_zero, List.headD_cons, List.headD_nil, List.tail_cons, List.tail_nil, Option.map_some, Option.map_none, if_true, if_false, Bool.false_eq_true, ite_true, ite_false, Bool.not_true, Bool.not_false, Bool.true_and, Bool.false_and, List.contains, List.elem, List.append_nil, List.length_cons, List.length_nil, Nat.zero_add, Nat.reduceAdd, Nat.reduceLeDiff, lim, Nat.reduceBEq, beq_self_eq_true, Bool.and_self, $ls,*] $[$loc]?)
abbrev wS (w : List Kd) : F.D := .str (w.map Kd.c)
theorem z_next (x : Sx) (k : Kd) : Z_next_state [.sh x.d, .sh k.d] = .rt (.sh (x.nx k).d) [.sh x.d, .sh k.d] := by
  obtain ⟨s, t⟩ := x
  cases k <;> cases s <;> cases t <;> rfl
theorem it_w (w : List Kd) : itS (wS w) = some (w.map Kd.d) := by
  show some _ = some _
  rw [List.map_map]
  rfl
theorem z_read (x : Sx) (w : List Kd) : Z_read_in [.sh x.d, .sh (wS w)] = .rt (.sh (x.fold w).d) [.sh (x.fold w).d, .sh (wS w)] := by
  have h := (for_fold (enc := Kd.d) (g := fun x : Sx => [some (.sh x.d), some (.sh (wS w)), none]) (step := Sx.nx) (I := fun _ => True) (t := .nm 2) (body := b_read_in_0) (as := w) (s := x) (fun s a _ _ => ⟨⟨_, rfl, by
    simp_arith [b_read_in_0, z_next]⟩, trivial⟩) trivial).1
  simp_arith [Z_read_in, m_read_in, it_w, h, Sx.fold]
theorem cut_to {α : Type} (l : List α) (c : Nat) (h : c ≤ l.length) : cut l none (some (c : Int)) = l.take c := by
  unfold cut
  have h1 : cutI l.length l.length (some (c : Int)) = c := by
    show (if (c : Int) < 0 then ((c : Int) + (l.length : Int)).toNat else min (c : Int).toNat l.length) = _
    rw [if_neg (by omega)]
    omega
  rw [h1]
  rfl
theorem cut_fr {α : Type} (l : List α) (c : Nat) (h : c ≤ l.length) : cut l (some (c : Int)) none = l.drop c := by
  unfold cut
  have h1 : cutI l.length 0 (some (c : Int)) = c := by
    show (if (c : Int) < 0 then ((c : Int) + (l.length : Int)).toNat else min (c : Int).toNat l.length) = _
    rw [if_neg (by omega)]
    omega
  rw [h1, show cutI l.length l.length none = l.length from rfl]
  exact List.take_of_length_le (by rw [List.length_drop]; omega)
theorem ne_strs (x y : List Nat) : neD (.str x) (.str y) = some (.bl (!(x == y))) := rfl
theorem inD_sign (k : Nat) (y : List Nat) : inD (.str [k]) (.str y) = some (.bl (decide (k ∈ y))) := rfl
theorem add_int (i j : Int) : addD (.int i) (.int j) = some (.int (i + j)) := rfl
theorem sx_at0 (x : Sx) : ixD x.d (.int 0) = some (.str [x.s.c]) := rfl
theorem sx_at1 (x : Sx) : ixD x.d (.int 1) = some (.str x.t.c) := rfl
/-! the strong ones' places -/
theorem ix_head (d : F.D) (l : List F.D) : ixD (.lst (d :: l)) (.int 0) = some d := by
  show getI (d :: l) 0 = _
  unfold getI ixI
  rw [if_pos (by decide), if_pos (by rw [List.length_cons]; omega)]
  rfl
theorem ix_lastL (d : F.D) (l : List F.D) : ixD (.lst (l ++ [d])) (.int (-1)) = some d := getI_last l d
end F.Kn
end

section
set_option linter.all false
set_option autoImplicit false
set_option maxRecDepth 100000
set_option maxHeartbeats 1000000
/-! kinds: texts -/
namespace F.Kn
local macro_rules | `(tactic| simp_arith [$ls,*] $[$loc]?) => `(tactic| simp only [runF, gdO, finR, endF, allO, sSeq, sSet, setR, sOf, leak, mNextS, andThen, mVar, mC, slot, peek, peeks, nrm, O.pk, O.frz, mIf, mTB, mTru, mAnd, mOr, mNot, mOp1, mOp2, mOl1, mOl2, mTup, mLst, mLks, mDct, mDvs, mBi, mBl, mRs, mSm0, mSm1, mSl, mSlL, mPt, mIt, mItZ, zipR, mCall, asArgs, asArg, back, ofRes, mergeO, ofO, ofOS, sIf, sRet, sRetN, sPass, sExp, sAug, sUnp, sPar, sAsg2, sSto, sBrk, sCnt, sFor, sDrop, sMatch, mtL, mOs, setAll, sPut, mItK, mMut0, mMut1, wipeE, unwipe, lcEnd, mLc, mYes, mItS, mItR, mChain, mStar, mLstD, sSlSto, mCallV, mGet2, zipS, mBad, sBad, mNotV, mAndV, mOrV, Tg.put, putAll, List.map_cons, List.map_nil, List.replicate, List.cons_append, List.nil_append, List.getElem?_cons_zero, List.getElem?_cons_succ, Option.bind_some, List.set_cons_zero, List.set_cons_succ, List.take_succ_cons, List.take_zero, List.headD_cons, List.headD_nil, List.tail_cons, List.tail_nil, Option.map_some, Option.map_none, if_true, if_false, Bool.false_eq_true, ite_true, ite_false, Bool.not_true, Bool.not_false, Bool.true_and, Bool.false_and, List.contains, List.elem, List.append_nil, List.length_cons, List.length_nil, Nat.zero_add, Nat.reduceAdd, Nat.reduceLeDiff, lim, Nat.reduceBEq, beq_self_eq_true, Bool.and_self, $ls,*] $[$loc]?)
/-- a text of the letters that the law draws -/
def Al (n : Nat) (x : List Nat) : Prop := (∀ c ∈ x, c ∈ alpha) ∧ x.length ≤ n
abbrev KK (x : List Nat) : List Kd := x.map kd
theorem Al.app {n m : Nat} {x y : List Nat} (h : Al n x) (g : Al m y) : Al (n + m) (x ++ y) := ⟨fun c hc => (List.mem_append.mp hc).elim (h.1 c) (g.1 c), by rw [List.length_append]; exact Nat.add_le_add h.2 g.2⟩
theorem Al.mono {n m : Nat} {x : List Nat} (h : Al n x) (e : n ≤ m) : Al m x := ⟨h.1, Nat.le_trans h.2 e⟩
def chD (c : Nat) : F.D := .str [c]
theorem itS_x (x : List Nat) : itS (.str x) = some (x.map chD) := rfl
theorem itES_x (x : List Nat) : itES (.str x) = some (enumF 0 (x.map chD)) := rfl
theorem tab_kinds : ∀ c ∈ alpha, tabD c_KINDS (.str [c]) = some (kd c).d := by
  unfold alpha
  repeat' (first | refine List.forall_mem_cons.mpr ⟨rfl, ?_⟩ | exact fun _ h => nomatch h)
theorem joinN_1 : ∀ x : List Nat, joinN [] (x.map fun c => [c]) = x
  | [] => rfl
  | [k] => rfl
  | k :: q :: x => by
    have := joinN_1 (q :: x)
    show [k] ++ ([] ++ joinN [] ((q :: x).map fun k => [k])) = _
    rw [this]
    rfl
theorem sum_1 : ∀ x : List Nat, ((x.map fun k => [k]).map List.length).sum = x.length
  | [] => rfl
  | k :: x => by
    have := sum_1 x
    simp only [List.map_cons, List.sum_cons, List.length_cons, List.length_nil] at this ⊢
    omega
theorem strs_1 : ∀ x : List Nat, strsOf (x.map chD) = some (x.map fun c => [c])
  | [] => rfl
  | c :: x => by
    show (strsOf (x.map chD)).map ([c] :: ·) = _
    rw [strs_1 x]
    rfl
theorem join_1 (x : List Nat) (h : x.length ≤ 1000) : joinD (.str []) (.lst (x.map chD)) = some (.str x) := by
  show ((strsOf (x.map chD)).bind fun xs => if (xs.map List.length).sum + xs.length * 0 ≤ F.lim then some (F.D.str (joinN [] xs)) else none) = _
  rw [strs_1]
  show (if ((x.map fun k => [k]).map List.length).sum + _ * 0 ≤ F.lim then some (F.D.str (joinN [] (x.map fun k => [k]))) else none) = _
  rw [sum_1, Nat.mul_zero, Nat.add_zero, if_pos (Nat.le_trans h (by decide)), joinN_1]
theorem join_w (w : List Kd) (h : w.length ≤ 1000) : joinD (.str []) (.lst (w.map Kd.d)) = some (wS w) := by
  have := join_1 (w.map Kd.c) (by rw [List.length_map]; exact h)
  rw [List.map_map] at this
  exact this
theorem lc_words {n : Nat} {x : List Nat} (h : Al n x) (e0 : Option O) : lcL [1] (.nm 1) mYes (mOp1 (tabD c_KINDS) (mVar 1)) (x.map chD) [] [e0, none] = .ok ((KK x).map Kd.d) [e0, none] := by
  have := lc_map (enc := chD) (own := [1]) (t := .nm 1) (c := mYes) (v := mOp1 (tabD c_KINDS) (mVar 1)) (e := [e0, none]) (f := fun c => (kd c).d) (as := x) (acc := []) (fun c hc => by
    have t := tab_kinds c (h.1 c hc)
    simp_arith [lcOne, mYes, chD, t])
  rw [this, List.map_map]
  rfl
theorem z_words {n : Nat} {x : List Nat} (h : Al n x) (hn : n ≤ 1000) : Z_words_of [.sh (.str x)] = .rt (.sh (wS (KK x))) [.sh (.str x)] := by
  have hl : (x.length ≤ 16777216) = True := eq_true (Nat.le_trans h.2 (Nat.le_trans hn (by decide)))
  have l2 : (x.map chD).length = x.length := List.length_map _
  have lw := lc_words h
  have j := join_w (KK x) (by rw [List.length_map]; exact Nat.le_trans h.2 hn)
  have i := itS_x x
  generalize x.map chD = I at *
  generalize (KK x).map Kd.d = J at *
  simp_arith [Z_words_of, m_words_of, i, l2, hl, lw, j]
/-! ### need_plain -/
theorem kn_alpha : ∀ c ∈ alpha, ninD (.str [c]) (.str c_KNOWN) = some (.bl false) ∧ ninD (.str [c]) (.str c_PLAIN_CHARACTERS) = some (.bl false) ∧ inD (.str [c]) (.str c_BEGINS) = some (.bl false) ∧ eqD (.str [c]) (.str c_END) = some (.bl false) := by
  unfold alpha
  repeat' (first | refine List.forall_mem_cons.mpr ⟨⟨rfl, rfl, rfl, rfl⟩, ?_⟩ | exact fun _ h => nomatch h)
theorem lc_none {own : List Nat} {t : Tg} {c : M Bool} {v : M F.R} {e : Env} : ∀ {ds acc : List F.D}, (∀ d ∈ ds, lcOne own t c v d e = some (none, e)) → lcL own t c v ds acc e = .ok acc e
  | [], acc, _ => rfl
  | d :: ds, acc, h => by
    rw [lc_eq (h d (List.mem_cons_self ..))]
    simp only [Option.toList, List.append_nil]
    exact lc_none fun b hb => h b (List.mem_cons_of_mem _ hb)
theorem mem_enum {d : F.D} : ∀ {l : List F.D} {n : Nat}, d ∈ enumF n l → ∃ (i : Int) (a : F.D), a ∈ l ∧ d = .tup [.int i, a]
  | [], n, h => by cases h
  | x :: l, n, h => by
    rcases List.mem_cons.mp h with rfl | h
    · exact ⟨_, x, List.mem_cons_self .., rfl⟩
    · obtain ⟨i, a, ha, e⟩ := mem_enum h
      exact ⟨i, a, List.mem_cons_of_mem _ ha, e⟩
theorem lc_unk {n : Nat} {x : List Nat} (h : Al n x) (e0 : Option O) : lcL [2, 3] (.tp [(.nm 2), (.nm 3)]) (mTB (mOp2 ninD (mVar 3) (mC (.str c_KNOWN)))) (mVar 2) (enumF 0 (x.map chD)) [] [e0, none, none, none] = .ok [] [e0, none, none, none] := by
  refine lc_none fun d hd => ?_
  obtain ⟨i, a, ha, rfl⟩ := mem_enum hd
  obtain ⟨c, hc, rfl⟩ := List.mem_map.mp ha
  have t := (kn_alpha c (h.1 c hc)).1
  simp_arith [lcOne, chD, t]
theorem lc_str {n : Nat} {x : List Nat} (h : Al n x) (e0 : Option O) : lcL [4, 5] (.tp [(.nm 4), (.nm 5)]) (mTB (mOp2 ninD (mVar 5) (mVar 1))) (mVar 4) (enumF 0 (x.map chD)) [] [e0, some (.sh (.str c_PLAIN_CHARACTERS)), none, none, none, none] = .ok [] [e0, some (.sh (.str c_PLAIN_CHARACTERS)), none, none, none, none] := by
  refine lc_none fun d hd => ?_
  obtain ⟨i, a, ha, rfl⟩ := mem_enum hd
  obtain ⟨c, hc, rfl⟩ := List.mem_map.mp ha
  have t := (kn_alpha c (h.1 c hc)).2.1
  simp_arith [lcOne, chD, t]
theorem for_over {n : Nat} {x : List Nat} (h : Al n x) (e0 e1 : Option O) : forL (.tp [(.nm 3), (.nm 4)]) b_overfull_0 (enumF 0 (x.map chD)) [e0, e1, some (.sh (.int 0)), none, none] = .nx [e0, e1, some (.sh (.int 0)), none, none] := by
  obtain ⟨e', h1, h2⟩ := for_inv (I := fun e => e = [e0, e1, some (.sh (.int 0)), none, none]) (t := .tp [(.nm 3), (.nm 4)]) (body := b_overfull_0) (ds := enumF 0 (x.map chD)) (fun d hd e he => by
    subst he
    obtain ⟨i, a, ha, rfl⟩ := mem_enum hd
    obtain ⟨c, hc, rfl⟩ := List.mem_map.mp ha
    obtain ⟨_, _, t1, t2⟩ := kn_alpha c (h.1 c hc)
    exact ⟨_, _, rfl, by simp_arith [b_overfull_0, chD, t1, t2], rfl⟩) rfl
  rw [h1, h2]
theorem z_unk {n : Nat} {x : List Nat} (h : Al n x) (hn : n ≤ 1000) : Z_first_unknown [.sh (.str x)] = .rt (.sh .non) [.sh (.str x)] := by
  have hl : ((enumF 0 (x.map chD)).length ≤ 16777216) = True := eq_true (by rw [enumF_len, List.length_map]; exact Nat.le_trans h.2 (Nat.le_trans hn (by decide)))
  have lw := lc_unk h
  have i := itES_x x
  generalize enumF 0 (x.map chD) = I at *
  simp_arith [Z_first_unknown, m_first_unknown, i, hl, lw]
  rfl
theorem z_over {n : Nat} {x : List Nat} (h : Al n x) : Z_overfull [.sh (.str x), .sh (.int 20)] = .rt (.sh .non) [.sh (.str x), .sh (.int 20)] := by
  have lw := for_over h
  have i := itES_x x
  generalize enumF 0 (x.map chD) = I at *
  simp_arith [Z_overfull, m_overfull, i, lw]
theorem z_fault {n : Nat} {x : List Nat} (h : Al n x) (hn : n ≤ 1000) : Z_first_fault [.sh (.str x)] = .rt (.sh .non) [.sh (.str x)] := by
  have z1 := z_unk h hn
  have z2 := z_over h
  simp_arith [Z_first_fault, m_first_fault, z1, z2]
  rfl
theorem len_str (x : List Nat) : lenD [.str x] = some (.int (x.length : Nat)) := rfl
theorem gt_int (i j : Int) : gtD (.int i) (.int j) = some (.bl (decide (j < i))) := rfl
theorem z_need {n : Nat} {x : List Nat} (h : Al n x) (hn : n ≤ 400) : Z_need_text [.sh (.str x), .sh (.str c_PLAIN_CHARACTERS)] = .rt (.sh .non) [.sh (.str x), .sh (.str c_PLAIN_CHARACTERS)] := by
  have hl : ((enumF 0 (x.map chD)).length ≤ 16777216) = True := eq_true (by rw [enumF_len, List.length_map]; exact Nat.le_trans h.2 (Nat.le_trans hn (by decide)))
  have g : ((400 : Int) < (x.length : Nat)) = False := eq_false (by have := h.2; omega)
  have lw := lc_str h
  have i := itES_x x
  have z := z_fault h (Nat.le_trans hn (by decide))
  have n0 : neD (.lst []) (.lst []) = some (.bl false) := rfl
  generalize enumF 0 (x.map chD) = I at *
  simp_arith [Z_need_text, m_need_text, isiD, isTy, len_str, gt_int, g, decide_false, i, hl, lw, z, n0, isntD, isNone]
theorem z_plain {n : Nat} {x : List Nat} (h : Al n x) (hn : n ≤ 400) : Z_need_plain [.sh (.str x)] = .rt (.sh .non) [.sh (.str x)] := by
  have z := z_need h hn
  simp_arith [Z_need_plain, m_need_plain, z]
/-! ### least, product, lead -/
def lst (x : List Nat) : List Nat := (Q.run (KK x)).least
end F.Kn
end

section
set_option linter.all false
set_option autoImplicit false
set_option maxRecDepth 100000
set_option maxHeartbeats 1000000
/-! kinds: effects -/
namespace F.Kn
local macro_rules | `(tactic| simp_arith [$ls,*] $[$loc]?) => `(tactic| simp only [runF, gdO, finR, endF, allO, sSeq, sSet, setR, sOf, leak, mNextS, andThen, mVar, mC, slot, peek, peeks, nrm, O.pk, O.frz, mIf, mTB, mTru, mAnd, mOr, mNot, mOp1, mOp2, mOl1, mOl2, mTup, mLst, mLks, mDct, mDvs, mBi, mBl, mRs, mSm0, mSm1, mSl, mSlL, mPt, mIt, mItZ, zipR, mCall, asArgs, asArg, back, ofRes, mergeO, ofO, ofOS, sIf, sRet, sRetN, sPass, sExp, sAug, sUnp, sPar, sAsg2, sSto, sBrk, sCnt, sFor, sDrop, sMatch, mtL, mOs, setAll, sPut, mItK, mMut0, mMut1, wipeE, unwipe, lcEnd, mLc, mYes, mItS, mItR, mChain, mStar, mLstD, sSlSto, mCallV, mGet2, zipS, mBad, sBad, mNotV, mAndV, mOrV, Tg.put, putAll, List.map_cons, List.map_nil, List.replicate, List.cons_append, List.nil_append, List.getElem?_cons_zero, List.getElem?_cons_succ, Option.bind_some, List.set_cons_zero, List.set_cons_succ, List.take_succ_cons, List.take_zero, List.headD_cons, List.headD_nil, List.tail_cons, List.tail_nil, Option.map_some, Option.map_none, if_true, if_false, Bool.false_eq_true, ite_true, ite_false, Bool.not_true, Bool.not_false, Bool.true_and, Bool.false_and, List.contains, List.elem, List.append_nil, List.length_cons, List.length_nil, Nat.zero_add, Nat.reduceAdd, Nat.reduceLeDiff, lim, Nat.reduceBEq, beq_self_eq_true, Bool.and_self, $ls,*] $[$loc]?)
theorem z_fate (l : Lt) (st : Sx) (k : Kd) : Z_fate [.sh l.d, .sh st.d, .sh k.d] = .rt (.sh (fateF l st.s k).d) [.sh l.d, .sh st.d, .sh k.d] := by
  obtain ⟨s, t⟩ := st
  cases l <;> cases s <;> cases k <;> rfl
theorem fate_ls (l : Lt) (s : Sg) (k : Kd) : fateF l s k ≠ .l .S := by
  cases l <;> cases s <;> cases k <;> (intro h; cases h)
theorem fr_in (r : Fr) (h : r ≠ .l .S) : ninD r.d (.tup [.str [78], .str [84]]) = some (.bl (match r with | .l _ => false | _ => true)) := by
  cases r with
  | l x => cases x <;> first | rfl | exact absurd rfl h
  | _ => rfl
theorem fw_loop (W : Option O) : ∀ (w : List Kd) (l : Lt) (st : Sx), ∃ l' st' o3 o4,
    sSeq (sDrop (fun e => forL (.nm 3) b_fate_within_0 (w.map Kd.d) e) [3, 4]) (sRet (mVar 0)) [some (.sh l.d), some (.sh st.d), W, none, none] = .rt (.sh (fwF l st w).d) [some (.sh l'), some (.sh st'), W, o3, o4]
  | [], l, st => ⟨l.d, st.d, none, none, rfl⟩
  | k :: w, l, st => by
    have z := z_fate l st k
    have n := fate_ls l st.s k
    have zn := z_next st k
    show ∃ l' st' o3 o4, _ = SR.rt (.sh (match fateF l st.s k with
      | .l x => fwF x (st.nx k) w
      | r => r).d) _
    have ti := fr_in _ n
    have fin : ∀ R : F.D, Z_fate [.sh l.d, .sh st.d, .sh k.d] = .rt (.sh R) [.sh l.d, .sh st.d, .sh k.d] → ninD R (.tup [.str [78], .str [84]]) = some (.bl true) →
        ∃ l' st' o3 o4, sSeq (sDrop (fun e => forL (.nm 3) b_fate_within_0 ((k :: w).map Kd.d) e) [3, 4]) (sRet (mVar 0)) [some (.sh l.d), some (.sh st.d), W, none, none] = .rt (.sh R) [some (.sh l'), some (.sh st'), W, o3, o4] := fun R z ti => by
      have hb : b_fate_within_0 [some (.sh l.d), some (.sh st.d), W, some (.sh k.d), none] = .rt (.sh R) [some (.sh l.d), some (.sh st.d), W, some (.sh k.d), some (.sh R)] := by
        generalize l.d = L at *
        generalize st.d = S at *
        generalize k.d = K at *
        simp_arith [b_fate_within_0, z, ti]
      have f := for_consR (t := .nm 3) (ds := w.map Kd.d) (e := [some (.sh l.d), some (.sh st.d), W, none, none]) rfl hb
      refine ⟨l.d, st.d, some (.sh k.d), some (.sh R), ?_⟩
      simp only [sSeq, sDrop, List.map_cons, f]
    generalize hr : fateF l st.s k = r at *
    cases r with
    | l x =>
      obtain ⟨l', st', o3, o4, ih⟩ := fw_loop W w x (st.nx k)
      refine ⟨l', st', o3, o4, ?_⟩
      rw [← ih]
      have hb : b_fate_within_0 [some (.sh l.d), some (.sh st.d), W, some (.sh k.d), none] = .nx [some (.sh x.d), some (.sh (st.nx k).d), W, none, none] := by
        have e : (Fr.l x).d = x.d := rfl
        rw [e] at z ti
        generalize x.d = X at *
        generalize l.d = L at *
        generalize (st.nx k).d = S2 at *
        generalize st.d = S at *
        generalize k.d = K at *
        simp_arith [b_fate_within_0, z, ti, zn]
      show sSeq (sDrop (fun e => forL (.nm 3) b_fate_within_0 (k.d :: w.map Kd.d) e) [3, 4]) (sRet (mVar 0)) _ = sSeq (sDrop (fun e => forL (.nm 3) b_fate_within_0 (w.map Kd.d) e) [3, 4]) (sRet (mVar 0)) _
      have f : forL (.nm 3) b_fate_within_0 (k.d :: w.map Kd.d) [some (.sh l.d), some (.sh st.d), W, none, none] = forL (.nm 3) b_fate_within_0 (w.map Kd.d) [some (.sh x.d), some (.sh (st.nx k).d), W, none, none] := for_cons rfl hb
      simp only [sSeq, sDrop, f]
    | dig => exact fin _ z ti
    | i0 => exact fin _ z ti
    | i1 => exact fin _ z ti
theorem z_fw (l : Lt) (st : Sx) (w : List Kd) : ∃ l' st', Z_fate_within [.sh l.d, .sh st.d, .sh (wS w)] = .rt (.sh (fwF l st w).d) [.sh l', .sh st', .sh (wS w)] := by
  obtain ⟨l', st', o3, o4, h⟩ := fw_loop (some (.sh (wS w))) w l st
  refine ⟨l', st', ?_⟩
  have i := it_w w
  have e : m_fate_within [some (.sh l.d), some (.sh st.d), some (.sh (wS w)), none, none] = .rt (.sh (fwF l st w).d) [some (.sh l'), some (.sh st'), some (.sh (wS w)), o3, o4] := by
    rw [← h]
    simp only [m_fate_within, sSeq, sDrop, sFor, mIt, mVar, slot, sOf, andThen, leak, List.getElem?_cons_zero, List.getElem?_cons_succ, O.frz, List.set_cons_zero, List.set_cons_succ, ofO, i]
  simp only [Z_fate_within, runF, gdO, if_true, List.map_cons, List.map_nil, List.replicate, List.cons_append, List.nil_append, e, finR, endF, List.take_succ_cons, List.take_zero, allO, Option.map_some]
theorem tl_in1 (t : Tl) : inD (.str t.c) (.tup [.str [], .str [114, 117, 110]]) = some (.bl (decide (t = .e ∨ t = .run))) := by cases t <;> rfl
theorem tl_in2 (t : Tl) : inD (.str t.c) (.tup [.str [114, 117, 110], .str [115, 105, 103, 110]]) = some (.bl (decide (t = .run ∨ t = .sign))) := by cases t <;> rfl
theorem tl_sign (t : Tl) : eqD (.str t.c) (.str [115, 105, 103, 110]) = some (.bl (decide (t = .sign))) := by cases t <;> rfl
theorem fr_N (r : Fr) : eqD r.d (.str [78]) = some (.bl (decide (r = .l .N))) := by
  cases r with
  | l x => cases x <;> rfl
  | _ => rfl
theorem fr_ST (r : Fr) : inD r.d (.tup [.str [83], .str [84]]) = some (.bl (decide (r = .l .S ∨ r = .l .T))) := by
  cases r with
  | l x => cases x <;> rfl
  | _ => rfl
theorem z_entry (st : Sx) (w : List Kd) : Z_entry_of [.sh st.d, .sh (wS w)] = .rt (.sh (entD st w)) [.sh st.d, .sh (wS w)] := by
  have s1 := sx_at1 st
  have t1 := tl_in1 st.t
  have t2 := tl_in2 st.t
  have t3 := tl_sign st.t
  have zr := z_read st w
  obtain ⟨a1, a2, f1⟩ := z_fw .N st w
  obtain ⟨a3, a4, f2⟩ := z_fw .S st w
  obtain ⟨a5, a6, f3⟩ := z_fw .T st w
  have g1 := fr_N (fwF .N st w)
  have g2 := fr_ST (fwF .S st w)
  have g3 := fr_ST (fwF .T st w)
  have f1 : Z_fate_within [.sh (.str [78]), .sh st.d, .sh (wS w)] = _ := f1
  have f2 : Z_fate_within [.sh (.str [83]), .sh st.d, .sh (wS w)] = _ := f2
  have f3 : Z_fate_within [.sh (.str [84]), .sh st.d, .sh (wS w)] = _ := f3
  have key : entD st w = .tup [(st.fold w).d, (if decide (st.t = .e ∨ st.t = .run) = true then (if decide (fwF .N st w = .l .N) = true then F.D.non else (fwF .N st w).d) else .non),
      (if decide (st.t = .run ∨ st.t = .sign) = true then (if decide (st.t = .sign) = true then (if decide (fwF .S st w = .l .S ∨ fwF .S st w = .l .T) = true then F.D.non else (fwF .S st w).d) else (if decide (fwF .T st w = .l .S ∨ fwF .T st w = .l .T) = true then F.D.non else (fwF .T st w).d)) else .non)] := by
    unfold entD neuF waiF
    obtain ⟨s, t⟩ := st
    have o1 : ∀ r : Fr, oD (match r with | .l .N => none | r => some r) = if decide (r = .l .N) = true then F.D.non else r.d := fun r => by
      cases r with
      | l x => cases x <;> rfl
      | _ => rfl
    have o2 : ∀ r : Fr, oD (match r with | .l .S => none | .l .T => none | r => some r) = if decide (r = .l .S ∨ r = .l .T) = true then F.D.non else r.d := fun r => by
      cases r with
      | l x => cases x <;> rfl
      | _ => rfl
    cases t with
    | e => rw [← o1]; rfl
    | digit => rfl
    | joined => rfl
    | run => rw [← o1, ← o2 (fwF .T _ w), ← o2 (fwF .S _ w)]; rfl
    | sign => rw [← o1, ← o2 (fwF .T _ w), ← o2 (fwF .S _ w)]; rfl
  rw [key]
  generalize decide (st.t = .e ∨ st.t = .run) = b1 at *
  generalize decide (st.t = .run ∨ st.t = .sign) = b2 at *
  generalize decide (st.t = .sign) = b3 at *
  generalize decide (fwF .N st w = .l .N) = b4 at *
  generalize decide (fwF .S st w = .l .S ∨ fwF .S st w = .l .T) = b5 at *
  generalize decide (fwF .T st w = .l .S ∨ fwF .T st w = .l .T) = b6 at *
  generalize (fwF .N st w).d = R1 at *
  generalize (fwF .S st w).d = R2 at *
  generalize (fwF .T st w).d = R3 at *
  generalize (st.fold w).d = S2 at *
  generalize st.t.c = T at *
  generalize st.d = S at *
  generalize wS w = W at *
  cases b1 <;> cases b2 <;> cases b3 <;> cases b4 <;> cases b5 <;> cases b6 <;>
    simp_arith [Z_entry_of, m_entry_of, s1, t1, t2, t3, zr, f1, f2, f3, g1, g2, g3]
theorem z_states : Z_states [] = .rt (.fl (all14.map Sx.d)) [] := by rfl
theorem lc_eff (w : List Kd) : lcL [1] (.nm 1) mYes (mCall Z_entry_of [] [] [(mVar 1), (mVar 0)]) (all14.map Sx.d) [] [some (.sh (wS w)), none] = .ok (all14.map fun st => entD st w) [some (.sh (wS w)), none] := by
  have := lc_map (enc := Sx.d) (own := [1]) (t := .nm 1) (c := mYes) (v := mCall Z_entry_of [] [] [(mVar 1), (mVar 0)]) (e := [some (.sh (wS w)), none]) (f := fun st => entD st w) (as := all14) (acc := []) (fun st _ => by
    have z := z_entry st w
    generalize st.d = S at *
    generalize entD st w = E at *
    generalize wS w = W at *
    simp_arith [lcOne, mYes, z])
  rw [this]
  rfl
theorem z_effect_of (w : List Kd) : Z_effect_of [.sh (wS w)] = .rt (.fl (all14.map fun st => entD st w)) [.sh (wS w)] := by
  have z := z_states
  have l := lc_eff w
  have hl : ((all14.map Sx.d).length ≤ 16777216) = True := eq_true (by decide)
  have i : itL (.lst (all14.map Sx.d)) = some (all14.map Sx.d) := rfl
  generalize all14.map Sx.d = A at *
  generalize (all14.map fun st => entD st w) = B at *
  generalize wS w = W at *
  simp_arith [Z_effect_of, m_effect_of, z, i, hl, l]
end F.Kn
end

section
set_option linter.all false
set_option autoImplicit false
set_option maxRecDepth 100000
set_option maxHeartbeats 1000000
/-! what the laws of effects draw -/
namespace F.Kn
local macro_rules | `(tactic| simp_arith [$ls,*] $[$loc]?) => `(tactic| simp only [runF, gdO, finR, endF, allO, sSeq, sSet, setR, sOf, leak, mNextS, andThen, mVar, mC, slot, peek, peeks, nrm, O.pk, O.frz, mIf, mTB, mTru, mAnd, mOr, mNot, mOp1, mOp2, mOl1, mOl2, mTup, mLst, mLks, mDct, mDvs, mBi, mBl, mRs, mSm0, mSm1, mSl, mSlL, mPt, mIt, mItZ, zipR, mCall, asArgs, asArg, back, ofRes, mergeO, ofO, ofOS, sIf, sRet, sRetN, sPass, sExp, sAug, sUnp, sPar, sAsg2, sSto, sBrk, sCnt, sFor, sDrop, sMatch, mtL, mOs, setAll, sPut, mItK, mMut0, mMut1, wipeE, unwipe, lcEnd, mLc, mYes, mItS, mItR, mChain, mStar, mLstD, sSlSto, mCallV, mGet2, zipS, mBad, sBad, mNotV, mAndV, mOrV, Tg.put, putAll, List.map_cons, List.map_nil, List.replicate, List.cons_append, List.nil_append, List.getElem?_cons_zero, List.getElem?_cons_succ, Option.bind_some, List.set_cons_zero, List.set_cons_succ, List.take_succ_cons, List.take_zero, List.headD_cons, List.headD_nil, List.tail_cons, List.tail_nil, Option.map_some, Option.map_none, if_true, if_false, Bool.false_eq_true, ite_true, ite_false, Bool.not_true, Bool.not_false, Bool.true_and, Bool.false_and, List.contains, List.elem, List.append_nil, List.length_cons, List.length_nil, Nat.zero_add, Nat.reduceAdd, Nat.reduceLeDiff, lim, Nat.reduceBEq, beq_self_eq_true, Bool.and_self, $ls,*] $[$loc]?)
abbrev bg (a m : Int) : O := .fl [.int a, .int m]
theorem ixI20 : ixI 2 0 = some 0 := rfl
theorem ixI21 : ixI 2 1 = some 1 := rfl
theorem bg0 (a m : Int) : ixD (.lst [.int a, .int m]) (.int 0) = some (.int a) := rfl
theorem bg1 (a m : Int) : ixD (.lst [.int a, .int m]) (.int 1) = some (.int m) := rfl
theorem int_int (i : Int) : intD [.int i] = some (.int i) := rfl
theorem mod_ok (i j : Int) (h : 0 < j) : modD (.int i) (.int j) = some (.int (i % j)) := if_pos h
theorem div_ok (i j : Int) (h : 0 < j) (h2 : j < 1073741824) : divD (.int i) (.int j) = some (.int (i / j)) := if_pos ⟨h, h2⟩
theorem mulOk_r (i j : Int) (h : -18446744073709551616 < j) (h2 : j < 18446744073709551616) : mulD (.int i) (.int j) = some (.int (i * j)) := if_pos (by simp [mulOk, h, h2])
theorem mulOk_l (i j : Int) (h : -18446744073709551616 < i) (h2 : i < 18446744073709551616) : mulD (.int i) (.int j) = some (.int (i * j)) := if_pos (by simp [mulOk, h, h2])
theorem z_take (a m n : Int) (h0 : 0 < n) (h1 : n < 1073741824) : ∃ a' m' r, Z__law_take [bg a m, .sh (.int n)] = .rt (.sh (.int r)) [bg a' m', .sh (.int n)] ∧ 0 ≤ r ∧ r < n := by
  have g := gt_int a 0
  by_cases ha : 0 < a
  · rw [decide_eq_true ha] at g
    refine ⟨a / n, m, a % n, ?_, Int.emod_nonneg _ (by omega), Int.emod_lt_of_pos _ h0⟩
    have e1 := mod_ok a n h0
    have e2 := div_ok a n h0 h1
    simp_arith [Z__law_take, m__law_take, bg0, g, int_int, e1, e2, ixI20]
  · rw [decide_eq_false ha] at g
    refine ⟨a, (m * 48271 + 1871) % 2147483399, (m * 48271 + 1871) % 2147483399 / 13 * 69621 % 2147483477 / 32 % n, ?_, Int.emod_nonneg _ (by omega), Int.emod_lt_of_pos _ h0⟩
    have e1 := mulOk_r m 48271 (by decide) (by decide)
    have e2 := mod_ok (m * 48271 + 1871) 2147483399 (by decide)
    generalize (m * 48271 + 1871) % 2147483399 = m2 at *
    have e3 := div_ok m2 13 (by decide) (by decide)
    have e4 := mulOk_r (m2 / 13) 69621 (by decide) (by decide)
    have e5 := mod_ok (m2 / 13 * 69621) 2147483477 (by decide)
    have e6 := div_ok (m2 / 13 * 69621 % 2147483477) 32 (by decide) (by decide)
    have e7 := mod_ok (m2 / 13 * 69621 % 2147483477 / 32) n h0
    simp_arith [Z__law_take, m__law_take, bg0, bg1, g, int_int, e1, add_int, e2, ixI21, e3, e4, e5, e6, e7]
theorem z_of_str (a m : Int) (x : List Nat) (h0 : x ≠ []) (h1 : x.length < 1000) : ∃ a' m' c, c ∈ x ∧ Z__law_of [bg a m, .sh (.str x)] = .rt (.sh (.str [c])) [bg a' m', .sh (.str x)] := by
  have hp : 0 < x.length := List.length_pos_iff.mpr h0
  obtain ⟨a', m', r, hz, r0, r1⟩ := z_take a m x.length (by omega) (by omega)
  obtain ⟨c, hc, hg⟩ := getI_nat r0 r1
  have e : ixD (.str x) (.int r) = some (.str [c]) := by
    show (getI x r).map _ = _
    rw [hg]
    rfl
  refine ⟨a', m', c, hc, ?_⟩
  simp_arith [Z__law_of, m__law_of, len_str, hz, e]
theorem len_lst (l : List F.D) : lenD [.lst l] = some (.int (l.length : Nat)) := rfl
theorem z_of_lst (a m : Int) (x : List F.D) (h0 : x ≠ []) (h1 : x.length < 1000) : ∃ a' m' c, c ∈ x ∧ Z__law_of [bg a m, .sh (.lst x)] = .rt (.sh c) [bg a' m', .sh (.lst x)] := by
  have hp : 0 < x.length := List.length_pos_iff.mpr h0
  obtain ⟨a', m', r, hz, r0, r1⟩ := z_take a m x.length (by omega) (by omega)
  obtain ⟨c, hc, hg⟩ := getI_nat r0 r1
  have e : ixD (.lst x) (.int r) = some c := hg
  refine ⟨a', m', c, hc, ?_⟩
  simp_arith [Z__law_of, m__law_of, len_lst, hz, e]
def chs : Kd → List Nat
  | .L => [97, 98, 120, 122, 43]
  | .R => [65, 66, 77, 42]
  | .A => [78, 81, 90]
  | .D => [48, 49, 55, 57]
  | .S => [44, 46, 58]
  | .T => [36, 35]
  | .N => [32, 33, 45, 40, 93]
theorem chs_alpha (k : Kd) : ∀ c ∈ chs k, c ∈ alpha := by cases k <;> decide
theorem z_char (a m : Int) (k : Kd) : ∃ a' m' c, c ∈ alpha ∧ Z__law_character [bg a m, .sh k.d] = .rt (.sh (.str [c])) [bg a' m', .sh k.d] := by
  obtain ⟨a', m', c, hc, hz⟩ := z_of_str a m (chs k) (by cases k <;> decide) (by cases k <;> decide)
  refine ⟨a', m', c, chs_alpha k c hc, ?_⟩
  have key : ∀ (K : F.D) (l : List Nat), getKD (.dct [(.s [76], .str [97, 98, 120, 122, 43]), (.s [82], .str [65, 66, 77, 42]), (.s [65], .str [78, 81, 90]), (.s [68], .str [48, 49, 55, 57]), (.s [83], .str [44, 46, 58]), (.s [84], .str [36, 35]), (.s [78], .str [32, 33, 45, 40, 93])]) K = some (.str l) →
      Z__law_of [bg a m, .sh (.str l)] = .rt (.sh (.str [c])) [bg a' m', .sh (.str l)] → Z__law_character [bg a m, .sh K] = .rt (.sh (.str [c])) [bg a' m', .sh K] := fun K l h1 h2 => by
    simp_arith [Z__law_character, m__law_character, h1, h2]
  exact key k.d (chs k) (by cases k <;> rfl) hz
theorem z_of_kd (a m : Int) (w : List Kd) (h0 : w ≠ []) (h1 : w.length < 1000) : ∃ a' m' k, Z__law_of [bg a m, .sh (wS w)] = .rt (.sh (Kd.d k)) [bg a' m', .sh (wS w)] := by
  obtain ⟨a', m', c, hc, hz⟩ := z_of_str a m (w.map Kd.c) (by simpa using h0) (by simpa using h1)
  obtain ⟨k, _, rfl⟩ := List.mem_map.mp hc
  exact ⟨a', m', k, hz⟩
theorem text_loop (w : List Kd) (n : Option O) (h0 : w ≠ []) (h1 : w.length < 1000) : ∀ (items acc : List F.D) (a m : Int), ∃ (a' m' : Int) (x : List Nat), x.length = items.length ∧ (∀ c ∈ x, c ∈ alpha) ∧
    lcL [3] (.nm 3) mYes (mCall Z__law_character [.bo, .lk] [] [(mVar 0), (mCall Z__law_of [.bo, .lk] [] [(mVar 0), (mVar 1)])]) items acc [some (bg a m), some (.sh (wS w)), n, none] = .ok (acc ++ x.map chD) [some (bg a' m'), some (.sh (wS w)), n, none]
  | [], acc, a, m => ⟨a, m, [], rfl, (fun _ h => by cases h), by simp [lcL]⟩
  | d :: items, acc, a, m => by
    obtain ⟨a1, m1, k, hz1⟩ := z_of_kd a m w h0 h1
    obtain ⟨a2, m2, c, hc, hz2⟩ := z_char a1 m1 k
    obtain ⟨a3, m3, x, hx, hal, ih⟩ := text_loop w n h0 h1 items (acc ++ [.str [c]]) a2 m2
    refine ⟨a3, m3, c :: x, by simp [hx], fun q hq => ?_, ?_⟩
    · rcases List.mem_cons.mp hq with rfl | hq
      · exact hc
      · exact hal q hq
    · have e3 : lcOne [3] (.nm 3) mYes (mCall Z__law_character [.bo, .lk] [] [(mVar 0), (mCall Z__law_of [.bo, .lk] [] [(mVar 0), (mVar 1)])]) d [some (bg a m), some (.sh (wS w)), n, none] = some (some (.str [c]), [some (bg a2 m2), some (.sh (wS w)), n, none]) := by
        generalize wS w = W at *
        generalize k.d = K at *
        simp_arith [lcOne, mYes, hz1, hz2]
      rw [lc_eq e3, show acc ++ (c :: x).map chD = acc ++ (some (F.D.str [c])).toList ++ x.map chD by simp [chD]]
      exact ih
theorem z_text (a m : Int) (w : List Kd) (N : Int) (hN : 0 ≤ N) (hN2 : N < 1000) (h0 : w ≠ []) (h1 : w.length < 1000) : ∃ a' m' x, Al N.toNat x ∧ Z__law_text [bg a m, .sh (wS w), .sh (.int N)] = .rt (.sh (.str x)) [bg a' m', .sh (wS w), .sh (.int N)] := by
  obtain ⟨a1, m1, r, hz, r0, r1⟩ := z_take a m (N + 1) (by omega) (by omega)
  obtain ⟨a2, m2, x, hx, hal, hl⟩ := text_loop w (some (.sh (.int N))) h0 h1 (rngF 0 r.toNat) [] a1 m1
  rw [rngF_len] at hx
  refine ⟨a2, m2, x, ⟨hal, by omega⟩, ?_⟩
  have i : itR1 (.int r) = some (rngF 0 r.toNat) := if_pos ⟨by omega, by omega⟩
  have l2 : ((rngF 0 r.toNat).length ≤ 16777216) = True := eq_true (by rw [rngF_len]; omega)
  have j := join_1 x (by omega)
  rw [List.nil_append] at hl
  generalize wS w = W at *
  generalize rngF 0 r.toNat = I at *
  generalize x.map chD = J at *
  simp_arith [Z__law_text, m__law_text, add_int, hz, i, l2, hl, j]
theorem lt_int (i j : Int) : ltD (.int i) (.int j) = some (.bl (decide (i < j))) := rfl
theorem ge_int (i j : Int) : geD (.int i) (.int j) = some (.bl (decide (j ≤ i))) := rfl
theorem abs_int (i : Int) : absD [.int i] = some (.int (if i < 0 then -i else i)) := rfl
theorem pow18 : powD (.int 10) (.int 18) = some (.int 1000000000000000000) := by rfl
theorem z_bag (ns : List Int) (h : ns.length ≤ 63) (i : Int) (h0 : 0 ≤ i) : ∃ a m, Z__law_bag [.sh (.lst (ns.map .int)), .sh (.int i)] = .rt (bg a m) [.sh (.lst (ns.map .int)), .sh (.int i)] := by
  have hc : ∃ c : Int, (if (i : Int) < ((ns.map F.D.int).length : Nat) then ixD (.lst (ns.map .int)) (.int i) = some (.int c) else c = 0) := by
    by_cases hi : i < ((ns.map F.D.int).length : Nat)
    · obtain ⟨d, hd, hg⟩ := getI_nat h0 hi
      obtain ⟨c, _, rfl⟩ := List.mem_map.mp hd
      exact ⟨c, by rw [if_pos hi]; exact hg⟩
    · exact ⟨0, by rw [if_neg hi]⟩
  obtain ⟨c, hc⟩ := hc
  have e1 := mulOk_l 7193 i (by decide) (by decide)
  -- the loop
  have lp : ∀ (ds : List F.D) (m : Int), (∀ d ∈ ds, ∃ j z : Int, d = .tup [.int j, .int z]) → ∃ m', forL (.tp [(.nm 4), (.nm 5)]) b__law_bag_0 ds [some (.sh (.lst (ns.map .int))), some (.sh (.int i)), some (.sh (.int c)), some (.sh (.int m)), none, none] = .nx [some (.sh (.lst (ns.map .int))), some (.sh (.int i)), some (.sh (.int c)), some (.sh (.int m')), none, none] := by
    intro ds
    induction ds with
    | nil => exact fun m _ => ⟨m, rfl⟩
    | cons d ds ih =>
      intro m hd
      obtain ⟨j, z, rfl⟩ := hd d (List.mem_cons_self ..)
      have f1 := mulOk_r m 39373 (by decide) (by decide)
      have f2 := mod_ok z 2147483399 (by decide)
      have f3 := mulOk_l 211 j (by decide) (by decide)
      have f4 := mod_ok (m * 39373 + z % 2147483399 + 211 * j + 5) 2147483563 (by decide)
      obtain ⟨m', hm⟩ := ih ((m * 39373 + z % 2147483399 + 211 * j + 5) % 2147483563) fun d hd' => hd d (List.mem_cons_of_mem _ hd')
      refine ⟨m', ?_⟩
      rw [← hm]
      generalize ns.map F.D.int = S at *
      refine for_cons rfl ?_
      simp_arith [b__law_bag_0, f1, f2, f3, f4, add_int, int_int]
  have sl : slL (.lst (ns.map .int)) none (some 50) = some (cut (ns.map F.D.int) none (some 50)) := rfl
  have it : itEL (.lst (cut (ns.map F.D.int) none (some 50))) = some (enumF 0 (cut (ns.map F.D.int) none (some 50))) := rfl
  obtain ⟨m', hm⟩ := lp (enumF 0 (cut (ns.map F.D.int) none (some 50))) (7193 * i + 401) (fun d hd => by
    obtain ⟨j, q, hq, rfl⟩ := mem_enum hd
    have hq2 : q ∈ ns.map F.D.int := List.mem_of_mem_drop (List.mem_of_mem_take hq)
    obtain ⟨z, _, rfl⟩ := List.mem_map.mp hq2
    exact ⟨j, z, rfl⟩)
  have ll := len_lst (ns.map F.D.int)
  have lt := lt_int i ((ns.map F.D.int).length : Nat)
  have ge := ge_int (if c < 0 then -c else c) 1000000000000000000
  have ab := abs_int c
  refine ⟨if 1000000000000000000 ≤ (if c < 0 then -c else c) then (if c < 0 then -c else c) else 0, m', ?_⟩
  generalize (if c < 0 then -c else c) = ca at *
  generalize enumF 0 (cut (ns.map F.D.int) none (some 50)) = E at *
  generalize cut (ns.map F.D.int) none (some 50) = C at *
  generalize ((ns.map F.D.int).length : Int) = L at *
  generalize ns.map F.D.int = S at *
  by_cases g1 : i < L
  · by_cases g2 : 1000000000000000000 ≤ ca <;> simp only [g1, g2, if_true, if_false, decide_true, decide_false] at hc lt ge ⊢ <;>
      simp_arith [Z__law_bag, m__law_bag, ll, lt, hc, e1, add_int, sl, it, hm, ab, pow18, ge]
  · rw [if_neg g1] at hc
    subst hc
    by_cases g2 : 1000000000000000000 ≤ ca <;> simp only [g1, g2, if_true, if_false, decide_true, decide_false] at lt ge ⊢ <;>
      simp_arith [Z__law_bag, m__law_bag, ll, lt, e1, add_int, sl, it, hm, ab, pow18, ge]
theorem max_int (i j : Int) : max2D [.int i, .int j] = some (.int (if j > i then j else i)) := rfl
theorem min_int (i j : Int) : min2D [.int i, .int j] = some (.int (if j < i then j else i)) := rfl
end F.Kn
end

section
set_option linter.all false
set_option autoImplicit false
set_option maxRecDepth 100000
set_option maxHeartbeats 1000000
/-! k42: states, what waits (plain) -/
namespace F
open Kn (Sx Sg Tl Lt Fr fwF fateF toldF dirF)
abbrev Kc := Kn.Kd
def b1 (b : Bool) : Nat := if b = true then 1 else 0
def st0 (r : Bool) : Sx := ⟨if r = true then .R else .L, .e⟩
def dS (st : Sx) : Bool := !decide (st.s = .L)
abbrev stP (r : Bool) (p : List Kc) : Sx := (st0 r).fold p
theorem stP_snoc (r : Bool) (p : List Kc) (a : Kc) : stP r (p ++ [a]) = (stP r p).nx a := Kn.Sx.fold_app _ p [a]
def hD : List Kc → Bool | .D :: _ => true | _ => false
def tEnd : List Kc → Bool
  | .T :: q => tEnd q
  | .D :: _ => true
  | _ => false
def jB (st : Sx) : Bool := (decide (st.t = .digit) || decide (st.t = .joined)) && !decide (st.s = .A)
def digB (st : Sx) (k : Kc) (q : List Kc) : Bool := match k with
  | .D => true
  | .S => decide (st.t = .digit) && hD q
  | .T => jB st || (tEnd q && !decide (st.s = .A))
  | _ => false
def waits (k : Kc) : Bool := decide (k = .S) || decide (k = .T) || decide (k = .N)
theorem b1_2 (b : Bool) : b1 b < 2 := by cases b <;> decide
def nxt (r : Bool) : Fr → Nat
  | .i0 => 0
  | .i1 => 1
  | _ => b1 r
theorem nxt_dir (r : Bool) (st : Sx) : nxt r (dirF st.s) = b1 (dS st) := by
  obtain ⟨s, t⟩ := st
  cases s <;> rfl
theorem tEnd_N : ∀ (q : List Kc) (st : Sx), tEnd q = true → fwF .N st q = dirF st.s
  | [], _, h => by cases h
  | a :: q, st, h => by
    cases a with
    | D =>
      obtain ⟨s, t⟩ := st
      cases s <;> rfl
    | T => exact tEnd_N q (st.nx .T) h
    | _ => cases h
/-- the value of a part: direction, and whether it is a number -/
def vl (r : Bool) (st : Sx) (k : Kc) (q : List Kc) : Nat := if digB st k q = true then b1 (dS st) else if waits k = true then (if b1 (dS st) = nxt r (fwF .N (st.nx k) q) then b1 (dS st) else b1 r) else b1 (!decide (k = .L))
theorem N_dig : ∀ (q : List Kc) (st : Sx), fwF .N st q ≠ .dig
  | [], _ => fun h => by cases h
  | a :: q, ⟨s, t⟩ => fun h => by
    have h : (match fateF .N s a with
      | .l x => fwF x (Sx.nx ⟨s, t⟩ a) q
      | r => r) = .dig := h
    cases a <;> cases s <;> first | exact N_dig q _ h | cases h
theorem hD_S : ∀ (q : List Kc) (st : Sx), hD q = decide (fwF .S st q = .dig)
  | [], st => rfl
  | k :: q, st => by
    obtain ⟨s, t⟩ := st
    cases k with
    | S => exact (decide_eq_false (N_dig q _)).symm
    | T => exact (decide_eq_false (N_dig q _)).symm
    | N => exact (decide_eq_false (N_dig q _)).symm
    | _ => cases s <;> rfl
theorem tEnd_T : ∀ (q : List Kc) (st : Sx), (tEnd q && !decide (st.s = .A)) = decide (fwF .T st q = .dig)
  | [], st => rfl
  | a :: q, ⟨s, t⟩ => by
    cases s <;> cases a <;> first | rfl | exact tEnd_T q (Sx.nx ⟨.L, t⟩ .T) | exact tEnd_T q (Sx.nx ⟨.R, t⟩ .T) | exact tEnd_T q (Sx.nx ⟨.A, t⟩ .T) | exact (decide_eq_false (N_dig q _)).symm
/-! ### by places -/
def kk (W : List Kc) (i : Nat) : Kc := W.getD i .N
abbrev stI (r : Bool) (W : List Kc) (i : Nat) : Sx := stP r (W.take i)
abbrev rsI (W : List Kc) (i : Nat) : List Kc := W.drop (i + 1)
theorem kk_at {W : List Kc} {i : Nat} (h : i < W.length) : W[i]? = some (kk W i) := by
  unfold kk
  rw [List.getD_eq_getElem?_getD, List.getElem?_eq_getElem h]
  rfl
theorem st_succ (r : Bool) {W : List Kc} {i : Nat} (h : i < W.length) : stI r W (i + 1) = (stI r W i).nx (kk W i) := by
  unfold stI
  rw [List.take_add_one, kk_at h]
  exact stP_snoc r _ _
theorem rs_cons {W : List Kc} {i : Nat} (h : i < W.length) : W.drop i = kk W i :: rsI W i := by
  unfold kk rsI
  rw [List.getD_eq_getElem?_getD, List.getElem?_eq_getElem h]
  exact (List.drop_eq_getElem_cons h)
theorem rs_nil {W : List Kc} {i : Nat} (h : W.length ≤ i) : W.drop i = [] := List.drop_eq_nil_iff.mpr h
def eapN (st : Sx) : Nat := if st.s = .A then 69 else 80
def s0N (st : Sx) (k : Kc) : Nat := if k = .D then eapN st else k.c
def k1N (st : Sx) (k : Kc) (q : List Kc) : Nat := match k with
  | .D => eapN st
  | .S => if st.t = .digit ∧ hD q = true then eapN st else 83
  | k => k.c
def kFN (st : Sx) (k : Kc) (q : List Kc) : Nat := if digB st k q = true then (if k = .T then 80 else eapN st) else if waits k = true then 78 else k.c
theorem eap_P (st : Sx) : eapN st = 80 ↔ st.s ≠ .A := by
  unfold eapN
  by_cases z : st.s = .A
  · rw [if_pos z]
    exact ⟨fun h => (by cases h), fun h => absurd z h⟩
  · rw [if_neg z]
    exact ⟨fun _ => z, fun _ => rfl⟩
abbrev k1I (r : Bool) (W : List Kc) (i : Nat) : Nat := k1N (stI r W i) (kk W i) (rsI W i)
def bkN (r : Bool) (W : List Kc) : Nat → Nat
  | 0 => k1I r W 0
  | j + 1 => if kk W (j + 1) = .T then bkN r W j else k1I r W (j + 1)
def fwN (r : Bool) (W : List Kc) : Nat → Nat → Nat
  | 0, j => k1I r W j
  | m + 1, j => if kk W j = .T then fwN r W m (j + 1) else k1I r W j
theorem k1_T (st : Sx) (q : List Kc) : k1N st .T q = 84 := rfl
theorem bk_not {r : Bool} {W : List Kc} {j : Nat} (h : kk W j ≠ .T) : bkN r W j = k1I r W j := by
  cases j with
  | zero => rfl
  | succ j => exact if_neg h
theorem fw_not {r : Bool} {W : List Kc} {j m : Nat} (h : kk W j ≠ .T) : fwN r W m j = k1I r W j := by
  cases m with
  | zero => rfl
  | succ m => exact if_neg h
theorem bk_eq (r : Bool) (W : List Kc) : ∀ j, j < W.length → kk W j = .T → (bkN r W j = 80 ↔ jB (stI r W j) = true)
  | 0, h, hk => by
    show k1N _ (kk W 0) _ = _ ↔ _
    rw [hk, k1_T]
    have : jB (stI r W 0) = false := by cases r <;> rfl
    rw [this]
    exact ⟨fun z => (by cases z), fun z => (by cases z)⟩
  | j + 1, h, hk => by
    have e : bkN r W (j + 1) = bkN r W j := if_pos hk
    rw [e, st_succ r (by omega)]
    by_cases z : kk W j = .T
    · rw [bk_eq r W j (by omega) z, z]
      generalize stI r W j = st
      obtain ⟨s, t⟩ := st
      cases s <;> cases t <;> decide
    · rw [bk_not z]
      have rq : rsI W j = .T :: rsI W (j + 1) := by
        have := rs_cons (W := W) (i := j + 1) h
        rw [hk] at this
        exact this
      show k1N (stI r W j) (kk W j) (rsI W j) = _ ↔ _
      rw [rq]
      generalize stI r W j = st
      generalize kk W j = k at *
      obtain ⟨s, t⟩ := st
      cases k with
      | T => exact absurd rfl z
      | D =>
        constructor
        · intro h
          have := (eap_P _).mp h
          cases s <;> first | rfl | exact absurd rfl this
        · intro h
          refine (eap_P _).mpr fun y => ?_
          have y : s = .A := y
          subst y
          cases h
      | S =>
        have : k1N ⟨s, t⟩ .S (.T :: rsI W (j + 1)) = 83 := if_neg fun y => by cases y.2
        rw [this]
        constructor
        · intro h
          cases h
        · intro h
          cases t <;> cases h
      | _ =>
        constructor
        · intro h
          cases h
        · intro h
          cases h
theorem fw_eq (r : Bool) (W : List Kc) : ∀ m j, j + m + 1 = W.length → kk W j = .T → (fwN r W m j = 80 ↔ tEnd (rsI W j) = true ∧ (stI r W j).s ≠ .A)
  | 0, j, h, hk => by
    show k1N _ (kk W j) _ = _ ↔ _
    rw [hk, k1_T, show rsI W j = [] from rs_nil (by omega)]
    exact ⟨fun z => (by cases z), fun z => (by cases z.1)⟩
  | m + 1, j, h, hk => by
    have e : fwN r W (m + 1) j = fwN r W m (j + 1) := if_pos hk
    have rq : rsI W j = kk W (j + 1) :: rsI W (j + 1) := rs_cons (W := W) (i := j + 1) (by omega)
    have hs : (stI r W (j + 1)).s = (stI r W j).s := by
      rw [st_succ r (by omega), hk]
      rfl
    have ht : (stI r W (j + 1)).t ≠ .digit := by
      rw [st_succ r (by omega), hk]
      generalize stI r W j = st
      obtain ⟨s, t⟩ := st
      cases s <;> cases t <;> decide
    rw [e, rq]
    by_cases z : kk W (j + 1) = .T
    · rw [fw_eq r W m (j + 1) (by omega) z, hs, z]
      rfl
    · rw [fw_not z, ← hs]
      show k1N (stI r W (j + 1)) (kk W (j + 1)) (rsI W (j + 1)) = _ ↔ _
      generalize kk W (j + 1) = k at *
      cases k with
      | T => exact absurd rfl z
      | D => exact ⟨fun y => ⟨rfl, (eap_P _).mp y⟩, fun y => (eap_P _).mpr y.2⟩
      | S =>
        have : k1N (stI r W (j + 1)) .S (rsI W (j + 1)) = 83 := if_neg fun y => ht y.1
        rw [this]
        exact ⟨fun y => (by cases y), fun y => (by cases y.1)⟩
      | _ => exact ⟨fun y => (by cases y), fun y => (by cases y.1)⟩
theorem joins (r : Bool) (W : List Kc) {j : Nat} (h : j < W.length) (hk : kk W j = .T) : (decide (bkN r W j = 80) || decide (fwN r W (W.length - 1 - j) j = 80)) = digB (stI r W j) (kk W j) (rsI W j) := by
  rw [hk]
  show _ = (jB (stI r W j) || (tEnd (rsI W j) && !decide ((stI r W j).s = .A)))
  have b := bk_eq r W j h hk
  have f := fw_eq r W (W.length - 1 - j) j (by omega) hk
  congr 1
  · rw [Bool.eq_iff_iff, decide_eq_true_eq, b]
  · rw [Bool.eq_iff_iff, decide_eq_true_eq, f, Bool.and_eq_true, Bool.not_eq_true', decide_eq_false_iff_not]
/-! ### directions -/
def wO (st : Sx) (k : Kc) (q : List Kc) : Option Nat := if digB st k q = true then some (b1 (dS st)) else if waits k = true then none else some (b1 (!decide (k = .L)))
abbrev wI (r : Bool) (W : List Kc) (i : Nat) : Option Nat := wO (stI r W i) (kk W i) (rsI W i)
def ahI (r : Bool) (W : List Kc) : Nat → Nat
  | 0 => b1 r
  | i + 1 => (wI r W i).getD (ahI r W i)
def bhI (r : Bool) (W : List Kc) : Nat → Nat → Nat
  | 0, _ => b1 r
  | m + 1, i => (wI r W i).getD (bhI r W m (i + 1))
theorem ah_eq (r : Bool) (W : List Kc) : ∀ i, i ≤ W.length → ahI r W i = b1 (dS (stI r W i))
  | 0, _ => by cases r <;> rfl
  | i + 1, h => by
    show (wI r W i).getD (ahI r W i) = _
    rw [ah_eq r W i (by omega), st_succ r (by omega)]
    unfold wI
    generalize stI r W i = st
    generalize kk W i = a
    generalize rsI W i = q
    have hs : a.st = false → dS (st.nx a) = dS st := fun h => by cases a <;> first | rfl | cases h
    unfold wO
    cases hd : digB st a q with
    | true =>
      rw [if_pos rfl, hs (by cases a <;> first | rfl | cases hd)]
      rfl
    | false =>
      rw [if_neg Bool.false_ne_true]
      cases a with
      | D => cases hd
      | L => rfl
      | R => rfl
      | A => rfl
      | S => exact congrArg b1 (hs rfl).symm
      | T => exact congrArg b1 (hs rfl).symm
      | N => exact congrArg b1 (hs rfl).symm
theorem bh_eq (r : Bool) (W : List Kc) : ∀ m i, i + m = W.length → (stI r W i).t ≠ .digit → (stI r W i).t ≠ .joined → bhI r W m i = nxt r (fwF .N (stI r W i) (W.drop i))
  | 0, i, h, _, _ => by
    rw [rs_nil (by omega)]
    rfl
  | m + 1, i, h, h1, h2 => by
    show (wI r W i).getD (bhI r W m (i + 1)) = _
    rw [rs_cons (by omega)]
    have go := bh_eq r W m (i + 1) (by omega)
    rw [st_succ r (by omega)] at go
    unfold wI
    have e : W.drop (i + 1) = rsI W i := rfl
    rw [e] at go
    generalize bhI r W m (i + 1) = B at *
    generalize stI r W i = st at *
    generalize kk W i = a at *
    generalize rsI W i = q at *
    clear e h
    cases a with
    | L => rfl
    | R => rfl
    | A => rfl
    | D =>
      show b1 (dS st) = nxt r (fwF .N st (.D :: q))
      rw [← nxt_dir r]
      obtain ⟨s, t⟩ := st
      cases s <;> rfl
    | N =>
      show B = _
      rw [go (by intro z; cases z) (by intro z; cases z)]
      rfl
    | S =>
      have : wO st .S q = none := by
        unfold wO
        have : digB st .S q = false := by
          show (decide _ && _) = false
          rw [decide_eq_false h1]
          rfl
        rw [this]
        rfl
      rw [this]
      show B = _
      rw [go (by
        show ¬ (if st.t = .digit then Tl.sign else Tl.e) = .digit
        rw [if_neg h1]
        intro z
        cases z) (by
        show ¬ (if st.t = .digit then Tl.sign else Tl.e) = .joined
        rw [if_neg h1]
        intro z
        cases z)]
      rfl
    | T =>
      have e : digB st .T q = (tEnd q && !decide (st.s = .A)) := by
        show (jB st || _) = _
        unfold jB
        rw [decide_eq_false h1, decide_eq_false h2]
        rfl
      have hr : (st.nx .T).t = .run := by
        show (if (st.t = .digit ∨ st.t = .joined) ∧ st.s ≠ .A then Tl.joined else Tl.run) = .run
        rw [if_neg fun z => z.1.elim h1 h2]
      have fs : fwF .N st (.T :: q) = fwF .N (st.nx .T) q := rfl
      unfold wO
      rw [e]
      by_cases z : (tEnd q && !decide (st.s = .A)) = true
      · rw [if_pos z, fs, tEnd_N q (st.nx .T) (Bool.and_eq_true_iff.mp z).1]
        exact (nxt_dir r st).symm
      · rw [if_neg z, fs]
        exact go (by rw [hr]; intro z; cases z) (by rw [hr]; intro z; cases z)
abbrev vlI (r : Bool) (W : List Kc) (i : Nat) : Nat := vl r (stI r W i) (kk W i) (rsI W i)
theorem vl_eq (r : Bool) (W : List Kc) {i : Nat} (h : i < W.length) : (match wI r W i with
    | some v => v
    | none => if ahI r W i = bhI r W (W.length - i) i then ahI r W i else b1 r) = vlI r W i := by
  have a := ah_eq r W i (by omega)
  have hb : bhI r W (W.length - i) i = (wI r W i).getD (bhI r W (W.length - (i + 1)) (i + 1)) := by
    rw [show W.length - i = (W.length - (i + 1)) + 1 by omega]
    rfl
  have go := bh_eq r W (W.length - (i + 1)) (i + 1) (by omega)
  rw [st_succ r h, show W.drop (i + 1) = rsI W i from rfl] at go
  rw [a, hb]
  unfold vlI wI
  generalize bhI r W (W.length - (i + 1)) (i + 1) = B at *
  clear a hb
  generalize stI r W i = st at *
  generalize kk W i = k at *
  generalize rsI W i = q at *
  unfold vl wO
  cases hd : digB st k q with
  | true => rfl
  | false =>
    rw [if_neg Bool.false_ne_true, if_neg Bool.false_ne_true]
    by_cases w : waits k = true
    · rw [if_pos w, if_pos w]
      have g := go (by
        intro z
        obtain ⟨s, t⟩ := st
        cases k <;> first | exact absurd w (by decide) | (cases s <;> cases t <;> first | exact absurd z (by decide) | cases hd)) (by
        intro z
        obtain ⟨s, t⟩ := st
        cases k <;> first | exact absurd w (by decide) | (cases s <;> cases t <;> first | exact absurd z (by decide) | cases hd))
      show (if b1 (dS st) = B then _ else _) = _
      rw [g]
    · rw [if_neg w, if_neg w]
end F
end

section
set_option linter.all false
set_option autoImplicit false
set_option maxRecDepth 100000
set_option maxHeartbeats 4000000
/-! k42: the law's rules 1 to 4 -/
namespace F
local macro_rules | `(tactic| simp_arith [$ls,*] $[$loc]?) => `(tactic| simp only [runF, gdO, finR, endF, allO, sSeq, sSet, setR, sOf, leak, mNextS, andThen, mVar, mC, slot, peek, peeks, nrm, O.pk, O.frz, mIf, mTB, mTru, mAnd, mOr, mNot, mOp1, mOp2, mOl1, mOl2, mTup, mLst, mLks, mDct, mDvs, mBi, mBl, mRs, mSm0, mSm1, mSl, mSlL, mPt, mIt, mItZ, zipR, mCall, asArgs, asArg, back, ofRes, mergeO, ofO, ofOS, sIf, sRet, sRetN, sPass, sExp, sAug, sUnp, sPar, sAsg2, sSto, sBrk, sCnt, sFor, sDrop, sMatch, mtL, mOs, setAll, sPut, mItK, mMut0, mMut1, wipeE, unwipe, lcEnd, mLc, mYes, mItS, mItR, mChain, mStar, mLstD, sSlSto, mCallV, mGet2, zipS, mBad, sBad, mNotV, mAndV, mOrV, Tg.put, putAll, List.map_cons, List.map_nil, List.replicate, List.cons_append, List.nil_append, List.getElem?_cons_zero, List.getElem?_cons_succ, Option.bind_some, List.set_cons_zero, List.set_cons_succ, List.take_succ_cons, List.take_zero, List.headD_cons, List.headD_nil, List.tail_cons, List.tail_nil, Option.map_some, Option.map_none, if_true, if_false, Bool.false_eq_true, ite_true, ite_false, Bool.not_true, Bool.not_false, Bool.true_and, Bool.false_and, List.contains, List.elem, List.append_nil, List.length_cons, List.length_nil, Nat.zero_add, Nat.reduceAdd, Nat.reduceLeDiff, lim, Nat.reduceBEq, beq_self_eq_true, Bool.and_self, $ls,*] $[$loc]?)
namespace Kn
theorem app_ok (l : List F.D) (d : F.D) (h : l.length < 1000000) : appF l d = some (.non, l ++ [d]) := if_pos (Nat.lt_trans h (by decide))
abbrev wD (W : List Kc) (i : Nat) : F.D := .str [(kk W i).c]
abbrev sD (r : Bool) (W : List Kc) (i : Nat) : F.D := .str [(stI r W i).s.c]
abbrev s0I (r : Bool) (W : List Kc) (i : Nat) : F.D := .str [s0N (stI r W i) (kk W i)]
abbrev k1S (r : Bool) (W : List Kc) (i : Nat) : F.D := .str [k1I r W i]
abbrev kFS (r : Bool) (W : List Kc) (i : Nat) : F.D := .str [kFN (stI r W i) (kk W i) (rsI W i)]
theorem map_tab (W : List Kc) : W.map Kd.d = tab W.length (wD W) := tab_of (List.length_map ..) fun i hi => by
  rw [List.getElem?_map, kk_at hi]
  rfl
theorem in_lra (k : Kc) : inD (.str [k.c]) (.str [76, 82, 65]) = some (.bl k.st) := by cases k <;> rfl
theorem sD_succ (r : Bool) {W : List Kc} {i : Nat} (h : i < W.length) : sD r W (i + 1) = if (kk W i).st = true then wD W i else sD r W i := by
  unfold sD wD
  rw [st_succ r h]
  generalize stI r W i = st
  generalize kk W i = k
  cases k <;> rfl
theorem eq_ch1 (a b : Nat) : eqD (.str [a]) (.str [b]) = some (.bl (decide (a = b))) := by
  have : eqD (.str [a]) (.str [b]) = some (.bl ([a] == [b])) := rfl
  rw [this]
  by_cases h : a = b
  · subst h
    simp
  · rw [decide_eq_false h]
    have : ([a] == [b]) = false := beq_eq_false_iff_ne.mpr fun z => h (by simpa using z)
    rw [this]
theorem ne_ch1 (a b : Nat) : neD (.str [a]) (.str [b]) = some (.bl (!decide (a = b))) := by
  have : neD (.str [a]) (.str [b]) = some (.bl (!([a] == [b]))) := rfl
  rw [this]
  by_cases h : a = b
  · subst h
    simp
  · rw [decide_eq_false h]
    have : ([a] == [b]) = false := beq_eq_false_iff_ne.mpr fun z => h (by simpa using z)
    rw [this]
theorem c_D (k : Kc) : k.c = 68 ↔ k = .D := by cases k <;> decide
theorem c_S (k : Kc) : k.c = 83 ↔ k = .S := by cases k <;> decide
theorem c_A (s : Sg) : s.c = 65 ↔ s = .A := by cases s <;> decide
/-! the strong ones before -/
theorem kn0 (r : Bool) (W : List Kc) (hn : W.length ≤ 1000) (X R : F.D) : forL (.nm 4) b__law_kinds_0 (tab W.length (wD W)) [some (.sh X), some (.sh R), some (.sh (sD r W 0)), some (.fl []), none, none, none, none, none, none] = .nx [some (.sh X), some (.sh R), some (.sh (sD r W W.length)), some (.fl (tab W.length (sD r W))), none, none, none, none, none, none] := by
  refine for_rng (enc := wD W) (g := fun i => [some (.sh X), some (.sh R), some (.sh (sD r W i)), some (.fl (tab i (sD r W))), none, none, none, none, none, none]) fun i hi => ?_
  refine ⟨_, rfl, ?_⟩
  have h1 := in_lra (kk W i)
  have ap := app_ok (tab i (sD r W)) (sD r W i) (by rw [tab_len]; omega)
  rw [← tab_succ] at ap
  rw [sD_succ r hi]
  generalize tab (i + 1) (sD r W) = T1 at *
  generalize tab i (sD r W) = T0 at *
  generalize sD r W i = B0 at *
  have e : wD W i = .str [(kk W i).c] := rfl
  rw [e]
  generalize F.D.str [(kk W i).c] = C at *
  generalize (kk W i).st = b at *
  cases b <;> simp_arith [b__law_kinds_0, h1, ap]
/-! digits told -/
theorem kn_lc (r : Bool) (W : List Kc) (X R : F.D) : lcL [6, 4] (.tp [(.nm 6), (.nm 4)]) mYes (mIf (mTB (mOp2 neD (mVar 4) (mC (.str [68])))) (mVar 4) (mIf (mTB (mOp2 eqD (mOp2 ixD (mVar 3) (mVar 6)) (mC (.str [65])))) (mC (.str [69])) (mC (.str [80])))) ((List.range W.length).map fun i => F.D.tup [.int (i : Nat), wD W i]) [] [some (.sh X), some (.sh R), none, some (.fl (tab W.length (sD r W))), none, none, none, none, none, none] =
    .ok (tab W.length (s0I r W)) [some (.sh X), some (.sh R), none, some (.fl (tab W.length (sD r W))), none, none, none, none, none, none] := by
  have h := lc_map (enc := fun i => F.D.tup [.int (i : Nat), wD W i]) (own := [6, 4]) (t := .tp [(.nm 6), (.nm 4)]) (c := mYes) (v := mIf (mTB (mOp2 neD (mVar 4) (mC (.str [68])))) (mVar 4) (mIf (mTB (mOp2 eqD (mOp2 ixD (mVar 3) (mVar 6)) (mC (.str [65])))) (mC (.str [69])) (mC (.str [80])))) (e := [some (.sh X), some (.sh R), none, some (.fl (tab W.length (sD r W))), none, none, none, none, none, none]) (f := s0I r W) (as := List.range W.length) (acc := []) (fun i hi => by
    have hi := List.mem_range.mp hi
    have n1 := ne_ch1 (kk W i).c 68
    have ix := ix_tab (sD r W) hi
    have q := eq_ch1 (stI r W i).s.c 65
    have es : s0I r W i = if kk W i = .D then (if (stI r W i).s = .A then .str [69] else .str [80]) else .str [(kk W i).c] := by
      unfold s0I s0N eapN
      split
      · split <;> rfl
      · rfl
    rw [es]
    have e : wD W i = .str [(kk W i).c] := rfl
    have e2 : sD r W i = .str [(stI r W i).s.c] := rfl
    rw [e]
    rw [e2] at ix
    generalize tab W.length (sD r W) = T at *
    generalize ((i : Nat) : Int) = I at *
    by_cases hd : kk W i = .D
    · rw [decide_eq_true ((c_D _).mpr hd)] at n1
      rw [if_pos hd]
      by_cases ha : (stI r W i).s = .A
      · rw [decide_eq_true ((c_A _).mpr ha)] at q
        rw [if_pos ha]
        generalize F.D.str [(kk W i).c] = C at *
        generalize F.D.str [(stI r W i).s.c] = S at *
        simp_arith [lcOne, mYes, n1, ix, q]
      · rw [decide_eq_false fun z => ha ((c_A _).mp z)] at q
        rw [if_neg ha]
        generalize F.D.str [(kk W i).c] = C at *
        generalize F.D.str [(stI r W i).s.c] = S at *
        simp_arith [lcOne, mYes, n1, ix, q]
    · rw [decide_eq_false fun z => hd ((c_D _).mp z)] at n1
      rw [if_neg hd]
      generalize F.D.str [(kk W i).c] = C at *
      simp_arith [lcOne, mYes, n1])
  rw [h, List.nil_append]
  rfl
/-! signs between digits -/
abbrev mixI (r : Bool) (W : List Kc) (i j : Nat) : F.D := if j < i then k1S r W j else s0I r W j
theorem k1_s0 (st : Sx) (k : Kc) (q : List Kc) (h : k = .S → ¬ (st.t = .digit ∧ hD q = true)) : k1N st k q = s0N st k := by
  cases k with
  | S => exact if_neg (h rfl)
  | _ => rfl
theorem t_dig (r : Bool) {W : List Kc} {i : Nat} (h : i + 1 < W.length) : (stI r W (i + 1)).t = .digit ↔ kk W i = .D := by
  rw [st_succ r (by omega)]
  generalize stI r W i = st
  generalize kk W i = k
  obtain ⟨s, t⟩ := st
  cases k <;> cases s <;> cases t <;> decide
theorem hD_at {W : List Kc} {i : Nat} (h : i + 1 < W.length) : hD (rsI W i) = true ↔ kk W (i + 1) = .D := by
  have : rsI W i = kk W (i + 1) :: rsI W (i + 1) := rs_cons (W := W) (i := i + 1) h
  rw [this]
  generalize kk W (i + 1) = k
  cases k <;> simp [hD]
theorem ixm {n i : Nat} (f : Nat → F.D) (h0 : 1 ≤ i) (h : i < n) : ixD (.lst (tab n f)) (.int ((i : Nat) - 1 : Int)) = some (f (i - 1)) := ix_tabP f (by omega) (by omega)
theorem ixp {n i : Nat} (f : Nat → F.D) (h : i + 1 < n) : ixD (.lst (tab n f)) (.int ((i : Nat) + 1 : Int)) = some (f (i + 1)) := ix_tab (i := i + 1) f h
theorem kn1 (r : Bool) (W : List Kc) (hn : W.length ≤ 1000) (R : F.D) (e3 : Option O) : forL (.nm 6) b__law_kinds_1 ((List.range' 1 (W.length - 2)).map fun i => F.D.int (i : Nat)) [some (.sh (.lst (tab W.length (wD W)))), some (.sh R), none, e3, none, some (.fl (tab W.length (mixI r W 1))), none, none, none, none] =
    .nx [some (.sh (.lst (tab W.length (wD W)))), some (.sh R), none, e3, none, some (.fl (tab W.length (mixI r W (1 + (W.length - 2))))), none, none, none, none] := by
  refine for_rng2 (enc := fun i => F.D.int (i : Nat)) (g := fun i => [some (.sh (.lst (tab W.length (wD W)))), some (.sh R), none, e3, none, some (.fl (tab W.length (mixI r W i))), none, none, none, none]) fun i h1 h2 => ?_
  refine ⟨_, rfl, ?_⟩
  have hi : i + 1 < W.length := by omega
  have x1 := ix_tab (wD W) (show i < W.length by omega)
  have x2 := ixm (wD W) h1 (show i < W.length by omega)
  have x3 := ixp (wD W) hi
  have q1 := eq_ch1 (kk W i).c 83
  have q2 := eq_ch1 (kk W (i - 1)).c 68
  have q3 := eq_ch1 (kk W (i + 1)).c 68
  have sb := sub_int (i : Nat) 1
  have ad := add_int (i : Nat) 1
  have y := ixm (mixI r W i) h1 (show i < W.length by omega)
  have ii : ixI (tab W.length (mixI r W i)).length ((i : Nat) : Int) = some i := by
    unfold ixI
    rw [if_pos (by omega), tab_len, if_pos (by omega), Int.toNat_natCast]
  have hd := hD_at hi
  have td : (stI r W i).t = .digit ↔ kk W (i - 1) = .D := by
    have := t_dig r (W := W) (i := i - 1) (by omega)
    rwa [show i - 1 + 1 = i by omega] at this
  have no : (kk W i = .S → ¬ ((stI r W i).t = .digit ∧ hD (rsI W i) = true)) → tab W.length (mixI r W (i + 1)) = tab W.length (mixI r W i) := fun h => tab_congr fun j hj => by
    unfold mixI
    by_cases e : j = i
    · subst e
      rw [if_pos (by omega), if_neg (by omega)]
      show F.D.str [k1N _ _ _] = _
      rw [k1_s0 _ _ _ h]
    · by_cases c : j < i
      · rw [if_pos (by omega), if_pos c]
      · rw [if_neg (by omega), if_neg c]
  by_cases hs : kk W i = .S
  · rw [decide_eq_true ((c_S _).mpr hs)] at q1
    by_cases h2 : kk W (i - 1) = .D
    · rw [decide_eq_true ((c_D _).mpr h2)] at q2
      by_cases h3 : kk W (i + 1) = .D
      · rw [decide_eq_true ((c_D _).mpr h3)] at q3
        have st := set_tab (mixI r W i) (mixI r W i (i - 1)) (show i < W.length by omega)
        have ev : tab W.length (mixI r W (i + 1)) = tab W.length fun j => if j = i then mixI r W i (i - 1) else mixI r W i j := tab_congr fun j hj => by
          by_cases e : j = i
          · subst e
            rw [if_pos rfl]
            unfold mixI
            rw [if_pos (by omega), if_pos (by omega)]
            unfold k1S k1I
            rw [hs, h2]
            have a : k1N (stI r W j) .S (rsI W j) = eapN (stI r W j) := if_pos ⟨td.mpr h2, hd.mpr h3⟩
            have b : ∀ st q, k1N st .D q = eapN st := fun _ _ => rfl
            rw [a, b]
            have : (stI r W j).s = (stI r W (j - 1)).s := by
              have := st_succ r (W := W) (i := j - 1) (by omega)
              rw [show j - 1 + 1 = j by omega, h2] at this
              rw [this]
              rfl
            unfold eapN
            rw [this]
          · rw [if_neg e]
            unfold mixI
            by_cases c : j < i
            · rw [if_pos (by omega), if_pos c]
            · rw [if_neg (by omega), if_neg c]
        rw [← ev] at st
        have e1 : wD W i = .str [(kk W i).c] := rfl
        have e2 : wD W (i - 1) = .str [(kk W (i - 1)).c] := rfl
        have e3 : wD W (i + 1) = .str [(kk W (i + 1)).c] := rfl
        rw [e1] at x1
        rw [e2] at x2
        rw [e3] at x3
        clear no ev hd td
        generalize tab W.length (mixI r W (i + 1)) = T1 at *
        generalize mixI r W i (i - 1) = V at *
        generalize tab W.length (mixI r W i) = T0 at *
        generalize tab W.length (wD W) = WW at *
        generalize F.D.str [(kk W i).c] = C1 at *
        generalize F.D.str [(kk W (i - 1)).c] = C2 at *
        generalize F.D.str [(kk W (i + 1)).c] = C3 at *
        generalize ((i : Nat) : Int) - 1 = J at *
        generalize ((i : Nat) : Int) + 1 = J2 at *
        generalize ((i : Nat) : Int) = I at *
        simp_arith [b__law_kinds_1, x1, q1, sb, x2, q2, ad, x3, q3, y, ii, st]
      · rw [decide_eq_false fun z => h3 ((c_D _).mp z)] at q3
        rw [no fun _ z => h3 (hd.mp z.2)]
        have e1 : wD W i = .str [(kk W i).c] := rfl
        have e2 : wD W (i - 1) = .str [(kk W (i - 1)).c] := rfl
        have e3 : wD W (i + 1) = .str [(kk W (i + 1)).c] := rfl
        rw [e1] at x1
        rw [e2] at x2
        rw [e3] at x3
        clear no hd td
        generalize tab W.length (mixI r W i) = T0 at *
        generalize tab W.length (wD W) = WW at *
        generalize F.D.str [(kk W i).c] = C1 at *
        generalize F.D.str [(kk W (i - 1)).c] = C2 at *
        generalize F.D.str [(kk W (i + 1)).c] = C3 at *
        generalize ((i : Nat) : Int) - 1 = J at *
        generalize ((i : Nat) : Int) + 1 = J2 at *
        generalize ((i : Nat) : Int) = I at *
        simp_arith [b__law_kinds_1, x1, q1, sb, x2, q2, ad, x3, q3]
    · rw [decide_eq_false fun z => h2 ((c_D _).mp z)] at q2
      rw [no fun _ z => h2 (td.mp z.1)]
      have e1 : wD W i = .str [(kk W i).c] := rfl
      have e2 : wD W (i - 1) = .str [(kk W (i - 1)).c] := rfl
      rw [e1] at x1
      rw [e2] at x2
      clear no hd td
      generalize tab W.length (mixI r W i) = T0 at *
      generalize tab W.length (wD W) = WW at *
      generalize F.D.str [(kk W i).c] = C1 at *
      generalize F.D.str [(kk W (i - 1)).c] = C2 at *
      generalize ((i : Nat) : Int) - 1 = J at *
      generalize ((i : Nat) : Int) = I at *
      simp_arith [b__law_kinds_1, x1, q1, sb, x2, q2]
  · rw [decide_eq_false fun z => hs ((c_S _).mp z)] at q1
    rw [no fun z => absurd z hs]
    have e1 : wD W i = .str [(kk W i).c] := rfl
    rw [e1] at x1
    clear no hd td
    generalize tab W.length (mixI r W i) = T0 at *
    generalize tab W.length (wD W) = WW at *
    generalize F.D.str [(kk W i).c] = C1 at *
    generalize ((i : Nat) : Int) = I at *
    simp_arith [b__law_kinds_1, x1, q1]
theorem mix_first (r : Bool) (W : List Kc) : tab W.length (s0I r W) = tab W.length (mixI r W 1) := tab_congr fun j hj => by
  unfold mixI
  by_cases c : j < 1
  · rw [if_pos c]
    have : j = 0 := by omega
    subst this
    show _ = F.D.str [k1N _ _ _]
    rw [k1_s0 _ _ _ fun _ z => by
      have : (stI r W 0).t = .e := by cases r <;> rfl
      rw [this] at z
      cases z.1]
  · rw [if_neg c]
theorem mix_last (r : Bool) (W : List Kc) : tab W.length (mixI r W (1 + (W.length - 2))) = tab W.length (k1S r W) := tab_congr fun j hj => by
  unfold mixI
  by_cases c : j < 1 + (W.length - 2)
  · rw [if_pos c]
  · rw [if_neg c]
    show _ = F.D.str [k1N _ _ _]
    rw [k1_s0 _ _ _ fun _ z => by
      have : rsI W j = [] := rs_nil (by omega)
      rw [this] at z
      cases z.2]
/-! the ends of a run -/
theorem k1_84 (st : Sx) (k : Kc) (q : List Kc) : k1N st k q = 84 ↔ k = .T := by
  have e : eapN st ≠ 84 := by
    unfold eapN
    split <;> decide
  cases k with
  | D => exact ⟨fun h => absurd h e, fun h => by cases h⟩
  | S =>
    refine ⟨fun h => ?_, fun h => by cases h⟩
    have h : (if st.t = .digit ∧ hD q = true then eapN st else 83) = 84 := h
    split at h
    · exact absurd h e
    · cases h
  | T => exact ⟨fun _ => rfl, fun _ => rfl⟩
  | _ => exact ⟨fun h => (by cases h), fun h => (by cases h)⟩
def lowI (W : List Kc) : Nat → Nat
  | 0 => 0
  | j + 1 => if kk W (j + 1) = .T then lowI W j else j + 1
def highI (W : List Kc) : Nat → Nat → Nat
  | 0, j => j
  | m + 1, j => if kk W j = .T then highI W m (j + 1) else j
theorem low_le (W : List Kc) : ∀ j, lowI W j ≤ j
  | 0 => Nat.le_refl _
  | j + 1 => by
    unfold lowI
    split
    · exact Nat.le_succ_of_le (low_le W j)
    · exact Nat.le_refl _
theorem high_le (W : List Kc) : ∀ m j, highI W m j ≤ j + m
  | 0, j => Nat.le_refl _
  | m + 1, j => by
    unfold highI
    split
    · have := high_le W m (j + 1)
      omega
    · omega
theorem bk_low (r : Bool) (W : List Kc) : ∀ j, bkN r W j = k1I r W (lowI W j)
  | 0 => rfl
  | j + 1 => by
    show (if kk W (j + 1) = .T then bkN r W j else k1I r W (j + 1)) = k1I r W (if kk W (j + 1) = .T then lowI W j else j + 1)
    split
    · exact bk_low r W j
    · rfl
theorem fw_high (r : Bool) (W : List Kc) : ∀ m j, fwN r W m j = k1I r W (highI W m j)
  | 0, j => rfl
  | m + 1, j => by
    show (if kk W j = .T then fwN r W m (j + 1) else k1I r W j) = k1I r W (if kk W j = .T then highI W m (j + 1) else j)
    split
    · exact fw_high r W m (j + 1)
    · rfl
abbrev cLow : M Bool := mAnd (mTB (mOp2 gtD (mVar 2) (mC (.int 0)))) (mTB (mOp2 eqD (mOp2 ixD (mVar 0) (mVar 2)) (mC (.str [84]))))
abbrev cHigh : M Bool := mAnd (mTB (mOp2 ltD (mVar 3) (mOp2 subD (mBi lenD [(mVar 0)]) (mC (.int 1))))) (mTB (mOp2 eqD (mOp2 ixD (mVar 0) (mVar 3)) (mC (.str [84]))))
theorem wh_low (r : Bool) (W : List Kc) (e1 e3 : Option O) : ∀ (j fuel : Nat), j < W.length → j < fuel → whL cLow b__law_sides_0 fuel [some (.sh (.lst (tab W.length (k1S r W)))), e1, some (.sh (.int (j : Nat))), e3] = .nx [some (.sh (.lst (tab W.length (k1S r W)))), e1, some (.sh (.int (lowI W j : Nat))), e3]
  | j, 0, _, h => by omega
  | 0, fuel + 1, h, _ => by
    have g := gt_int ((0 : Nat) : Int) 0
    rw [decide_eq_false (by omega)] at g
    have hc : cLow [some (.sh (.lst (tab W.length (k1S r W)))), e1, some (.sh (.int ((0 : Nat) : Int))), e3] = .ok false [some (.sh (.lst (tab W.length (k1S r W)))), e1, some (.sh (.int ((0 : Nat) : Int))), e3] := by
      generalize ((0 : Nat) : Int) = J at *
      simp_arith [cLow, g]
    simp only [whL, hc]
    rfl
  | j + 1, fuel + 1, h, hf => by
    have g := gt_int ((j + 1 : Nat) : Int) 0
    rw [decide_eq_true (by omega)] at g
    have ix := ix_tab (k1S r W) h
    have q := eq_ch1 (k1I r W (j + 1)) 84
    have e : lowI W (j + 1) = if kk W (j + 1) = .T then lowI W j else j + 1 := rfl
    rw [e]
    by_cases z : kk W (j + 1) = .T
    · rw [decide_eq_true ((k1_84 _ _ _).mpr z)] at q
      rw [if_pos z]
      have hc : cLow [some (.sh (.lst (tab W.length (k1S r W)))), e1, some (.sh (.int ((j + 1 : Nat) : Int))), e3] = .ok true [some (.sh (.lst (tab W.length (k1S r W)))), e1, some (.sh (.int ((j + 1 : Nat) : Int))), e3] := by
        have e2 : k1S r W (j + 1) = .str [k1I r W (j + 1)] := rfl
        rw [e2] at ix
        generalize F.D.str [k1I r W (j + 1)] = C at *
        generalize tab W.length (k1S r W) = T at *
        generalize ((j + 1 : Nat) : Int) = J at *
        simp_arith [cLow, g, ix, q]
      have hb : b__law_sides_0 [some (.sh (.lst (tab W.length (k1S r W)))), e1, some (.sh (.int ((j + 1 : Nat) : Int))), e3] = .nx [some (.sh (.lst (tab W.length (k1S r W)))), e1, some (.sh (.int (j : Nat))), e3] := by
        have s := sub_int ((j + 1 : Nat) : Int) 1
        rw [show ((j + 1 : Nat) : Int) - 1 = (j : Nat) by omega] at s
        generalize ((j + 1 : Nat) : Int) = J at *
        simp_arith [b__law_sides_0, s]
      have ih := wh_low r W e1 e3 j fuel (by omega) (by omega)
      simp only [whL, hc, hb]
      exact ih
    · rw [decide_eq_false fun y => z ((k1_84 _ _ _).mp y)] at q
      rw [if_neg z]
      have hc : cLow [some (.sh (.lst (tab W.length (k1S r W)))), e1, some (.sh (.int ((j + 1 : Nat) : Int))), e3] = .ok false [some (.sh (.lst (tab W.length (k1S r W)))), e1, some (.sh (.int ((j + 1 : Nat) : Int))), e3] := by
        have e2 : k1S r W (j + 1) = .str [k1I r W (j + 1)] := rfl
        rw [e2] at ix
        generalize F.D.str [k1I r W (j + 1)] = C at *
        generalize tab W.length (k1S r W) = T at *
        generalize ((j + 1 : Nat) : Int) = J at *
        simp_arith [cLow, g, ix, q]
      simp only [whL, hc]
theorem wh_high (r : Bool) (W : List Kc) (e1 e2 : Option O) : ∀ (m j fuel : Nat), j + m + 1 = W.length → m < fuel → whL cHigh b__law_sides_1 fuel [some (.sh (.lst (tab W.length (k1S r W)))), e1, e2, some (.sh (.int (j : Nat)))] = .nx [some (.sh (.lst (tab W.length (k1S r W)))), e1, e2, some (.sh (.int (highI W m j : Nat)))]
  | m, j, 0, _, h => by omega
  | 0, j, fuel + 1, h, _ => by
    have ln : lenD [.lst (tab W.length (k1S r W))] = some (.int (W.length : Nat)) := by
      show some (F.D.int ((tab W.length (k1S r W)).length : Nat)) = _
      rw [tab_len]
    have s := sub_int (W.length : Nat) 1
    have g := lt_int (j : Nat) (((W.length : Nat) : Int) - 1)
    rw [decide_eq_false (by omega)] at g
    have hc : cHigh [some (.sh (.lst (tab W.length (k1S r W)))), e1, e2, some (.sh (.int (j : Nat)))] = .ok false [some (.sh (.lst (tab W.length (k1S r W)))), e1, e2, some (.sh (.int (j : Nat)))] := by
      generalize tab W.length (k1S r W) = T at *
      generalize ((W.length : Nat) : Int) - 1 = L1 at *
      generalize ((W.length : Nat) : Int) = L at *
      generalize ((j : Nat) : Int) = J at *
      simp_arith [cHigh, ln, s, g]
    simp only [whL, hc]
    rfl
  | m + 1, j, fuel + 1, h, hf => by
    have ln : lenD [.lst (tab W.length (k1S r W))] = some (.int (W.length : Nat)) := by
      show some (F.D.int ((tab W.length (k1S r W)).length : Nat)) = _
      rw [tab_len]
    have s := sub_int (W.length : Nat) 1
    have g := lt_int (j : Nat) (((W.length : Nat) : Int) - 1)
    rw [decide_eq_true (by omega)] at g
    have ix := ix_tab (k1S r W) (show j < W.length by omega)
    have q := eq_ch1 (k1I r W j) 84
    have e : highI W (m + 1) j = if kk W j = .T then highI W m (j + 1) else j := rfl
    rw [e]
    have ev : ∀ b : Bool, eqD (.str [k1I r W j]) (.str [84]) = some (.bl b) → cHigh [some (.sh (.lst (tab W.length (k1S r W)))), e1, e2, some (.sh (.int (j : Nat)))] = .ok b [some (.sh (.lst (tab W.length (k1S r W)))), e1, e2, some (.sh (.int (j : Nat)))] := fun b q => by
      have e2 : k1S r W j = .str [k1I r W j] := rfl
      rw [e2] at ix
      generalize F.D.str [k1I r W j] = C at *
      generalize tab W.length (k1S r W) = T at *
      generalize ((W.length : Nat) : Int) - 1 = L1 at *
      generalize ((W.length : Nat) : Int) = L at *
      generalize ((j : Nat) : Int) = J at *
      simp_arith [cHigh, ln, s, g, ix, q]
    by_cases z : kk W j = .T
    · rw [decide_eq_true ((k1_84 _ _ _).mpr z)] at q
      rw [if_pos z]
      have hc := ev true q
      have hb : b__law_sides_1 [some (.sh (.lst (tab W.length (k1S r W)))), e1, e2, some (.sh (.int (j : Nat)))] = .nx [some (.sh (.lst (tab W.length (k1S r W)))), e1, e2, some (.sh (.int ((j + 1 : Nat) : Int)))] := by
        have s := add_int (j : Nat) 1
        rw [show ((j : Nat) : Int) + 1 = ((j + 1 : Nat) : Int) by omega] at s
        generalize ((j + 1 : Nat) : Int) = J1 at *
        generalize ((j : Nat) : Int) = J at *
        simp_arith [b__law_sides_1, s]
      have ih := wh_high r W e1 e2 m (j + 1) fuel (by omega) (by omega)
      simp only [whL, hc, hb]
      exact ih
    · rw [decide_eq_false fun y => z ((k1_84 _ _ _).mp y)] at q
      rw [if_neg z]
      have hc := ev false q
      simp only [whL, hc]
theorem z_sides (r : Bool) (W : List Kc) (hn : W.length ≤ 900) {i : Nat} (hi : i < W.length) : Z__law_sides [.sh (.lst (tab W.length (k1S r W))), .sh (.int (i : Nat))] = .rt (.sh (.tup [.str [bkN r W i], .str [fwN r W (W.length - 1 - i) i]])) [.sh (.lst (tab W.length (k1S r W))), .sh (.int (i : Nat))] := by
  have w1 := wh_low r W (some (.sh (.int (i : Nat)))) (some (.sh (.int (i : Nat)))) i 1000 hi (by omega)
  have w2 := wh_high r W (some (.sh (.int (i : Nat)))) (some (.sh (.int (lowI W i : Nat)))) (W.length - 1 - i) i 1000 (by omega) (by omega)
  have l1 := low_le W i
  have l2 := high_le W (W.length - 1 - i) i
  have x1 := ix_tab (k1S r W) (show lowI W i < W.length by omega)
  have x2 := ix_tab (k1S r W) (show highI W (W.length - 1 - i) i < W.length by omega)
  rw [bk_low, fw_high]
  have e1 : k1S r W (lowI W i) = .str [k1I r W (lowI W i)] := rfl
  have e2 : k1S r W (highI W (W.length - 1 - i) i) = .str [k1I r W (highI W (W.length - 1 - i) i)] := rfl
  rw [e1] at x1
  rw [e2] at x2
  unfold cLow at w1
  unfold cHigh at w2
  generalize F.D.str [k1I r W (lowI W i)] = C1 at *
  generalize F.D.str [k1I r W (highI W (W.length - 1 - i) i)] = C2 at *
  generalize ((lowI W i : Nat) : Int) = J1 at *
  generalize ((highI W (W.length - 1 - i) i : Nat) : Int) = J2 at *
  generalize tab W.length (k1S r W) = T at *
  generalize ((i : Nat) : Int) = I at *
  simp_arith [Z__law_sides, m__law_sides, sWhile, w1, w2, x1, x2]
end Kn
end F
end

section
set_option linter.all false
set_option autoImplicit false
set_option maxRecDepth 100000
set_option maxHeartbeats 4000000
/-! k42: the law's rules -/
namespace F
local macro_rules | `(tactic| simp_arith [$ls,*] $[$loc]?) => `(tactic| simp only [runF, gdO, finR, endF, allO, sSeq, sSet, setR, sOf, leak, mNextS, andThen, mVar, mC, slot, peek, peeks, nrm, O.pk, O.frz, mIf, mTB, mTru, mAnd, mOr, mNot, mOp1, mOp2, mOl1, mOl2, mTup, mLst, mLks, mDct, mDvs, mBi, mBl, mRs, mSm0, mSm1, mSl, mSlL, mPt, mIt, mItZ, zipR, mCall, asArgs, asArg, back, ofRes, mergeO, ofO, ofOS, sIf, sRet, sRetN, sPass, sExp, sAug, sUnp, sPar, sAsg2, sSto, sBrk, sCnt, sFor, sDrop, sMatch, mtL, mOs, setAll, sPut, mItK, mMut0, mMut1, wipeE, unwipe, lcEnd, mLc, mYes, mItS, mItR, mChain, mStar, mLstD, sSlSto, mCallV, mGet2, zipS, mBad, sBad, mNotV, mAndV, mOrV, Tg.put, putAll, List.map_cons, List.map_nil, List.replicate, List.cons_append, List.nil_append, List.getElem?_cons_zero, List.getElem?_cons_succ, Option.bind_some, List.set_cons_zero, List.set_cons_succ, List.take_succ_cons, List.take_zero, List.headD_cons, List.headD_nil, List.tail_cons, List.tail_nil, Option.map_some, Option.map_none, if_true, if_false, Bool.false_eq_true, ite_true, ite_false, Bool.not_true, Bool.not_false, Bool.true_and, Bool.false_and, List.contains, List.elem, List.append_nil, List.length_cons, List.length_nil, Nat.zero_add, Nat.reduceAdd, Nat.reduceLeDiff, lim, Nat.reduceBEq, beq_self_eq_true, Bool.and_self, $ls,*] $[$loc]?)
namespace Kn
theorem in_P (a b : Nat) : inD (.str [80]) (.tup [.str [a], .str [b]]) = some (.bl (decide (a = 80) || decide (b = 80))) := by
  show some (F.D.bl (([a] == [80]) || (([b] == [80]) || false))) = _
  have h : ∀ a : Nat, (([a] : List Nat) == [80]) = decide (a = 80) := fun a => by
    by_cases h : a = 80
    · subst h
      rfl
    · rw [decide_eq_false h]
      exact beq_eq_false_iff_ne.mpr fun z => h (by simpa using z)
  rw [h, h, Bool.or_false]
theorem in_ST (k : Nat) : inD (.str [k]) (.str [83, 84]) = some (.bl (decide (k ∈ [83, 84]))) := inD_sign k _
theorem kF_T (st : Sx) (q : List Kc) : kFN st .T q = if digB st .T q = true then 80 else 78 := by
  unfold kFN
  split
  · rfl
  · rfl
theorem kF_no (st : Sx) (k : Kc) (q : List Kc) (h : k ≠ .T) : kFN st k q = if k1N st k q ∈ [83, 84] then 78 else k1N st k q := by
  have he : eapN st ∉ [83, 84] := by
    unfold eapN
    split <;> decide
  cases k with
  | T => exact absurd rfl h
  | D =>
    show eapN st = if eapN st ∈ [83, 84] then 78 else eapN st
    rw [if_neg he]
  | S =>
    unfold kFN
    by_cases b : st.t = .digit ∧ hD q = true
    · have d : digB st .S q = true := by
        show (decide _ && _) = true
        rw [decide_eq_true b.1, b.2]
        rfl
      have k1 : k1N st .S q = eapN st := if_pos b
      rw [d, k1, if_pos rfl, if_neg he]
      rfl
    · have d : digB st .S q = false := by
        show (decide _ && _) = false
        rw [Bool.eq_false_iff]
        intro y
        rw [Bool.and_eq_true] at y
        exact b ⟨of_decide_eq_true y.1, y.2⟩
      have k1 : k1N st .S q = 83 := if_neg b
      rw [d, k1]
      rfl
  | _ => rfl
theorem kn2 (r : Bool) (W : List Kc) (hn : W.length ≤ 900) (X R : F.D) (e3 : Option O) (O5 : O) (h5 : O5 = .sh (.lst (tab W.length (k1S r W)))) : forL (.tp [(.nm 6), (.nm 8)]) b__law_kinds_2 ((List.range W.length).map fun i => F.D.tup [.int (i : Nat), k1S r W i]) [some (.sh X), some (.sh R), none, e3, none, some O5, none, some (.fl []), none, none] =
    .nx [some (.sh X), some (.sh R), none, e3, none, some O5, none, some (.fl (tab W.length (kFS r W))), none, none] := by
  subst h5
  refine for_rng (enc := fun i => F.D.tup [.int (i : Nat), k1S r W i]) (g := fun i => [some (.sh X), some (.sh R), none, e3, none, some (.sh (.lst (tab W.length (k1S r W)))), none, some (.fl (tab i (kFS r W))), none, none]) fun i hi => ?_
  refine ⟨_, rfl, ?_⟩
  have ap := app_ok (tab i (kFS r W)) (kFS r W i) (by rw [tab_len]; omega)
  rw [← tab_succ] at ap
  have q := eq_ch1 (k1I r W i) 84
  have e1 : k1S r W i = .str [k1I r W i] := rfl
  rw [e1]
  generalize tab (i + 1) (kFS r W) = T1 at *
  generalize tab i (kFS r W) = T0 at *
  by_cases z : kk W i = .T
  · have zs := z_sides r W hn hi
    have ip := in_P (bkN r W i) (fwN r W (W.length - 1 - i) i)
    rw [joins r W hi z, z] at ip
    rw [decide_eq_true ((k1_84 _ _ _).mpr z)] at q
    have kf : kFS r W i = .str [if digB (stI r W i) .T (rsI W i) = true then 80 else 78] := by
      unfold kFS
      rw [z, kF_T]
    rw [kf] at ap
    have is := in_ST (k1I r W i)
    have k84 : k1I r W i = 84 := (k1_84 _ _ _).mpr z
    rw [show decide (k1I r W i ∈ [83, 84]) = true from decide_eq_true (by rw [k84]; decide)] at is
    clear k84
    have tr : ∀ b, truD (.bl b) = some b := fun _ => rfl
    generalize F.D.tup [.str [bkN r W i], .str [fwN r W (W.length - 1 - i) i]] = TT at *
    generalize tab W.length (k1S r W) = T at *
    generalize F.D.str [k1I r W i] = C at *
    generalize ((i : Nat) : Int) = I at *
    cases hd : digB (stI r W i) .T (rsI W i) with
    | true =>
      rw [hd] at ip ap
      rw [if_pos rfl] at ap
      have t1 := tr true
      simp_arith [b__law_kinds_2, q, zs, ip, t1, ap]
    | false =>
      rw [hd] at ip ap
      rw [if_neg Bool.false_ne_true] at ap
      have t1 := tr false
      simp_arith [b__law_kinds_2, q, zs, ip, t1, is, ap]
  · rw [decide_eq_false fun y => z ((k1_84 _ _ _).mp y)] at q
    have kf : kFS r W i = .str [if k1I r W i ∈ [83, 84] then 78 else k1I r W i] := by
      unfold kFS
      rw [kF_no _ _ _ z]
    rw [kf] at ap
    have is := in_ST (k1I r W i)
    have t1 : truD (.bl false) = some false := rfl
    generalize tab W.length (k1S r W) = T at *
    generalize ((i : Nat) : Int) = I at *
    by_cases y : k1I r W i ∈ [83, 84]
    · rw [decide_eq_true y] at is
      rw [if_pos y] at ap
      generalize F.D.str [k1I r W i] = C at *
      simp_arith [b__law_kinds_2, q, t1, is, ap]
    · rw [decide_eq_false y] at is
      rw [if_neg y] at ap
      generalize F.D.str [k1I r W i] = C at *
      simp_arith [b__law_kinds_2, q, t1, is, ap]
theorem itR_w (n : Nat) (h : n ≤ 1000) : ((-4611686018427387904 ≤ (1 : Int) ∧ (1 : Int) < 4611686018427387904) ∧ -4611686018427387904 ≤ ((n : Nat) : Int) - 1 ∧ ((n : Nat) : Int) - 1 < 4611686018427387904) = True := eq_true (by omega)
theorem rng_w (n : Nat) : rngF 1 (((n : Nat) : Int) - 1 - 1).toNat = (List.range' 1 (n - 2)).map fun i => F.D.int (i : Nat) := by
  rw [show (((n : Nat) : Int) - 1 - 1).toNat = n - 2 by omega]
  exact rngF_r 1 _
theorem z_kinds (r : Bool) (W : List Kc) (hn : W.length ≤ 900) : Z__law_kinds [.sh (.lst (W.map Kd.d)), .sh (.bl r)] = .rt (.sh (.tup [.lst (tab W.length (kFS r W)), .lst (tab W.length (sD r W))])) [.sh (.lst (W.map Kd.d)), .sh (.bl r)] := by
  rw [map_tab]
  have tr : truD (.bl r) = some r := rfl
  have i1 : itL (.lst (tab W.length (wD W))) = some (tab W.length (wD W)) := rfl
  have hl : ((tab W.length (wD W)).length ≤ 16777216) = True := eq_true (by rw [tab_len]; omega)
  have l0 := kn0 r W (by omega) (.lst (tab W.length (wD W))) (.bl r)
  have i2 : itEL (.lst (tab W.length (wD W))) = some ((List.range W.length).map fun i => F.D.tup [.int (i : Nat), wD W i]) := by
    show some (enumF 0 (tab W.length (wD W))) = _
    rw [enum_tab]
  have hl2 : (((List.range W.length).map fun i => F.D.tup [.int (i : Nat), wD W i]).length ≤ 16777216) = True := eq_true (by rw [List.length_map, List.length_range]; omega)
  have lc := kn_lc r W (.lst (tab W.length (wD W))) (.bl r)
  rw [mix_first] at lc
  have ln : lenD [.lst (tab W.length (wD W))] = some (.int (W.length : Nat)) := by
    show some (F.D.int ((tab W.length (wD W)).length : Nat)) = _
    rw [tab_len]
  have sb := sub_int (W.length : Nat) 1
  have rg := rng_w W.length
  have ri := itR_w W.length (by omega)
  have hl3 : (((List.range' 1 (W.length - 2)).map fun i => F.D.int (i : Nat)).length ≤ 16777216) = True := eq_true (by rw [List.length_map, List.length_range']; omega)
  have hl4 : (((List.range W.length).map fun i => F.D.tup [.int (i : Nat), k1S r W i]).length ≤ 16777216) = True := eq_true (by rw [List.length_map, List.length_range]; omega)
  have l1 := kn1 r W (by omega) (.bl r) (some (.fl (tab W.length (sD r W))))
  rw [mix_last] at l1
  have i3 : itEL (.lst (tab W.length (k1S r W))) = some ((List.range W.length).map fun i => F.D.tup [.int (i : Nat), k1S r W i]) := by
    show some (enumF 0 (tab W.length (k1S r W))) = _
    rw [enum_tab]
  have l2 := kn2 r W hn (.lst (tab W.length (wD W))) (.bl r) (some (.fl (tab W.length (sD r W)))) _ rfl
  have s0 : sD r W 0 = .str [if r = true then 82 else 76] := by cases r <;> rfl
  rw [s0] at l0
  generalize tab W.length (wD W) = WW at *
  generalize tab W.length (sD r W) = S at *
  generalize tab W.length (kFS r W) = KF at *
  generalize tab W.length (mixI r W 1) = M1 at *
  generalize tab W.length (k1S r W) = K1 at *
  generalize sD r W W.length = SN at *
  generalize ((List.range W.length).map fun i => F.D.tup [.int (i : Nat), wD W i]) = I2 at *
  generalize ((List.range W.length).map fun i => F.D.tup [.int (i : Nat), k1S r W i]) = I3 at *
  generalize ((List.range' 1 (W.length - 2)).map fun i => F.D.int (i : Nat)) = I1 at *
  generalize ((W.length : Nat) : Int) - 1 = N1 at *
  generalize ((W.length : Nat) : Int) = N at *
  cases r <;> simp only [ite_true, Bool.false_eq_true, ite_false] at l0 <;> simp_arith [Z__law_kinds, m__law_kinds, tr, i1, hl, l0, i2, hl2, lc, ln, sb, ri, rg, hl3, l1, i3, hl4, l2]
end Kn
end F
end

section
set_option linter.all false
set_option autoImplicit false
set_option maxRecDepth 100000
set_option maxHeartbeats 4000000
/-! k42: the law's directions -/
namespace F
local macro_rules | `(tactic| simp_arith [$ls,*] $[$loc]?) => `(tactic| simp only [runF, gdO, finR, endF, allO, sSeq, sSet, setR, sOf, leak, mNextS, andThen, mVar, mC, slot, peek, peeks, nrm, O.pk, O.frz, mIf, mTB, mTru, mAnd, mOr, mNot, mOp1, mOp2, mOl1, mOl2, mTup, mLst, mLks, mDct, mDvs, mBi, mBl, mRs, mSm0, mSm1, mSl, mSlL, mPt, mIt, mItZ, zipR, mCall, asArgs, asArg, back, ofRes, mergeO, ofO, ofOS, sIf, sRet, sRetN, sPass, sExp, sAug, sUnp, sPar, sAsg2, sSto, sBrk, sCnt, sFor, sDrop, sMatch, mtL, mOs, setAll, sPut, mItK, mMut0, mMut1, wipeE, unwipe, lcEnd, mLc, mYes, mItS, mItR, mChain, mStar, mLstD, sSlSto, mCallV, mGet2, zipS, mBad, sBad, mNotV, mAndV, mOrV, Tg.put, putAll, List.map_cons, List.map_nil, List.replicate, List.cons_append, List.nil_append, List.getElem?_cons_zero, List.getElem?_cons_succ, Option.bind_some, List.set_cons_zero, List.set_cons_succ, List.take_succ_cons, List.take_zero, List.headD_cons, List.headD_nil, List.tail_cons, List.tail_nil, Option.map_some, Option.map_none, if_true, if_false, Bool.false_eq_true, ite_true, ite_false, Bool.not_true, Bool.not_false, Bool.true_and, Bool.false_and, List.contains, List.elem, List.append_nil, List.length_cons, List.length_nil, Nat.zero_add, Nat.reduceAdd, Nat.reduceLeDiff, lim, Nat.reduceBEq, beq_self_eq_true, Bool.and_self, $ls,*] $[$loc]?)
namespace Kn
def oiD : Option Nat → F.D
  | none => .non
  | some v => .int (v : Nat)
theorem z_way (st : Sx) (k : Kc) (q : List Kc) : Z__law_way [.sh (.str [kFN st k q]), .sh (.str [st.s.c])] = .rt (.sh (oiD (wO st k q))) [.sh (.str [kFN st k q]), .sh (.str [st.s.c])] := by
  unfold kFN wO
  cases hd : digB st k q with
  | true =>
    rw [if_pos rfl, if_pos rfl]
    unfold eapN dS
    obtain ⟨s, t⟩ := st
    by_cases hk : k = .T
    · rw [if_pos hk]
      cases s <;> rfl
    · rw [if_neg hk]
      cases s <;> rfl
  | false =>
    rw [if_neg Bool.false_ne_true, if_neg Bool.false_ne_true]
    by_cases w : waits k = true
    · rw [if_pos w, if_pos w]
      rfl
    · rw [if_neg w, if_neg w]
      cases k <;> first | rfl | exact absurd rfl w | cases hd
theorem mem_last (r : Bool) (W : List Kc) : ∀ i, ∃ t, F.D.int (b1 r : Nat) :: ((List.range i).filterMap fun j => (wI r W j).map fun v => F.D.int (v : Nat)) = t ++ [.int (ahI r W i : Nat)]
  | 0 => ⟨[], rfl⟩
  | i + 1 => by
    obtain ⟨t, ih⟩ := mem_last r W i
    rw [List.range_succ, List.filterMap_append]
    show ∃ t, _ = t ++ [F.D.int (((wI r W i).getD (ahI r W i) : Nat) : Int)]
    cases h : wI r W i with
    | none =>
      have : [i].filterMap (fun j => (wI r W j).map fun v => F.D.int (v : Nat)) = [] := by
        rw [List.filterMap_cons, h]
        rfl
      rw [this, List.append_nil]
      exact ⟨t, ih⟩
    | some v =>
      have : [i].filterMap (fun j => (wI r W j).map fun v => F.D.int (v : Nat)) = [.int (v : Nat)] := by
        rw [List.filterMap_cons, h]
        rfl
      rw [this]
      exact ⟨_, by rw [← List.cons_append]; rfl⟩
theorem mem_head (r : Bool) (W : List Kc) : ∀ m i, ∃ t, ((List.range' i m).filterMap fun j => (wI r W j).map fun v => F.D.int (v : Nat)) ++ [F.D.int (b1 r : Nat)] = .int (bhI r W m i : Nat) :: t
  | 0, i => ⟨[], rfl⟩
  | m + 1, i => by
    obtain ⟨t, ih⟩ := mem_head r W m (i + 1)
    rw [List.range'_succ, List.filterMap_cons]
    show ∃ t, _ = F.D.int (((wI r W i).getD (bhI r W m (i + 1)) : Nat) : Int) :: t
    cases h : wI r W i with
    | none => exact ⟨t, ih⟩
    | some v => exact ⟨_, rfl⟩
theorem drop_rng (i : Nat) : ∀ s n, (List.range' s n).drop i = List.range' (s + i) (n - i) := by
  induction i with
  | zero => intro s n; rfl
  | succ i ih =>
    intro s n
    cases n with
    | zero => rw [List.range'_zero, List.drop_nil, Nat.zero_sub]; rfl
    | succ n =>
      rw [List.range'_succ, List.drop_succ_cons, ih, show s + 1 + i = s + (i + 1) by omega, Nat.add_sub_add_right]
theorem lc_some (r : Bool) (W : List Kc) (as : List Nat) (e0 e1 e2 e3 e4 e5 e6 e7 e8 e9 e10 e11 : Option O) : lcL [12] (.nm 12) (mTB (mOp2 isntD (mVar 12) (mC .non))) (mVar 12) (as.map fun i => oiD (wI r W i)) [] [e0, e1, e2, e3, e4, e5, e6, e7, e8, e9, e10, e11, none] =
    .ok (as.filterMap fun j => (wI r W j).map fun v => F.D.int (v : Nat)) [e0, e1, e2, e3, e4, e5, e6, e7, e8, e9, e10, e11, none] := by
  have h := lc_fm (enc := fun i => oiD (wI r W i)) (own := [12]) (t := .nm 12) (c := mTB (mOp2 isntD (mVar 12) (mC .non))) (v := mVar 12) (e := [e0, e1, e2, e3, e4, e5, e6, e7, e8, e9, e10, e11, none]) (f := fun j => (wI r W j).map fun v => F.D.int (v : Nat)) (as := as) (acc := []) (fun c _ => by
    cases wI r W c with
    | none =>
      have h1 : isntD .non .non = some (.bl false) := rfl
      simp_arith [lcOne, oiD, h1]
    | some v =>
      have h1 : isntD (.int (v : Nat)) .non = some (.bl true) := rfl
      show lcOne _ _ _ _ (F.D.int (v : Nat)) _ = some (some (F.D.int (v : Nat)), _)
      generalize ((v : Nat) : Int) = V at *
      simp_arith [lcOne, h1])
  rw [h, List.nil_append]
abbrev vD (r : Bool) (W : List Kc) (i : Nat) : F.D := .int (vlI r W i : Nat)
theorem int_bl (b : Bool) : intD [.bl b] = some (.int (b1 b : Nat)) := by cases b <;> rfl
theorem eq_nat (a b : Nat) : eqD (.int (a : Nat)) (.int (b : Nat)) = some (.bl (decide (a = b))) := by
  rw [F.eq_int]
  by_cases h : a = b
  · subst h
    simp
  · rw [decide_eq_false h, beq_eq_false_iff_ne.mpr fun z => h (by omega)]
theorem cat_ok' (x y : List F.D) (h : x.length + y.length ≤ 16777216) : catL (.lst x) (.lst y) = some (x ++ y) := if_pos h
theorem fm_len {α : Type} (f : Nat → Option α) (l : List Nat) : (l.filterMap f).length ≤ l.length := List.length_filterMap_le f l
theorem wy_step (r : Bool) (W : List Kc) (hn : W.length ≤ 900) (X Y Z : F.D) {i : Nat} (hi : i < W.length) :
    b__law_ways_0 [some (.sh X), some (.sh (.bl r)), some (.sh Y), some (.sh Z), some (.sh (.lst (tab W.length fun i => oiD (wI r W i)))), some (.fl (tab i (vD r W))), some (.sh (.int (i : Nat))), some (.sh (oiD (wI r W i))), none, none, none, none, none] =
      .nx [some (.sh X), some (.sh (.bl r)), some (.sh Y), some (.sh Z), some (.sh (.lst (tab W.length fun i => oiD (wI r W i)))), some (.fl (tab (i + 1) (vD r W))), none, none, none, none, none, none, none] := by
  have c1 : slL (.lst (tab W.length fun i => oiD (wI r W i))) none (some (i : Nat)) = some ((List.range i).map fun i => oiD (wI r W i)) := by
    show some (cut _ _ _) = _
    rw [cut_to _ _ (by rw [tab_len]; omega), take_tab _ (by omega)]
    rfl
  have c2 : slL (.lst (tab W.length fun i => oiD (wI r W i))) (some (i : Nat)) none = some ((List.range' i (W.length - i)).map fun i => oiD (wI r W i)) := by
    show some (cut _ _ _) = _
    rw [cut_fr _ _ (by rw [tab_len]; omega), tab, ← List.map_drop, List.range_eq_range', drop_rng, Nat.zero_add]
  have i1 : ∀ l : List F.D, itL (.lst l) = some l := fun _ => rfl
  have i1a := i1 ((List.range i).map fun i => oiD (wI r W i))
  have i1b := i1 ((List.range' i (W.length - i)).map fun i => oiD (wI r W i))
  have h1 : (((List.range i).map fun i => oiD (wI r W i)).length ≤ 16777216) = True := eq_true (by rw [List.length_map, List.length_range]; omega)
  have h2 : (((List.range' i (W.length - i)).map fun i => oiD (wI r W i)).length ≤ 16777216) = True := eq_true (by rw [List.length_map, List.length_range']; omega)
  have l1 := lc_some r W (List.range i)
  have l2 := lc_some r W (List.range' i (W.length - i))
  have ib := int_bl r
  have lf1 := fm_len (fun j => (wI r W j).map fun v => F.D.int (v : Nat)) (List.range i)
  have lf2 := fm_len (fun j => (wI r W j).map fun v => F.D.int (v : Nat)) (List.range' i (W.length - i))
  rw [List.length_range] at lf1
  rw [List.length_range'] at lf2
  have k1 := cat_ok' [.int (b1 r : Nat)] ((List.range i).filterMap fun j => (wI r W j).map fun v => F.D.int (v : Nat)) (by rw [List.length_singleton]; omega)
  have k2 := cat_ok' ((List.range' i (W.length - i)).filterMap fun j => (wI r W j).map fun v => F.D.int (v : Nat)) [.int (b1 r : Nat)] (by rw [List.length_singleton]; omega)
  obtain ⟨t1, g1⟩ := mem_last r W i
  obtain ⟨t2, g2⟩ := mem_head r W (W.length - i) i
  rw [show [F.D.int (b1 r : Nat)] ++ ((List.range i).filterMap fun j => (wI r W j).map fun v => F.D.int (v : Nat)) = t1 ++ [.int (ahI r W i : Nat)] from g1] at k1
  rw [g2] at k2
  have x1 := ix_lastL (.int (ahI r W i : Nat)) t1
  have x2 := ix_head (.int (bhI r W (W.length - i) i : Nat)) t2
  have ng : negD (.int 1) = some (.int (-1)) := rfl
  have q := eq_nat (ahI r W i) (bhI r W (W.length - i) i)
  have ap := app_ok (tab i (vD r W)) (vD r W i) (by rw [tab_len]; omega)
  rw [← tab_succ] at ap
  have vq := vl_eq r W hi
  have ev : vD r W i = .int (vlI r W i : Nat) := rfl
  rw [ev, ← vq] at ap
  clear ev vq g1 g2 lf1 lf2
  generalize tab (i + 1) (vD r W) = T1 at *
  generalize tab i (vD r W) = T0 at *
  generalize (tab W.length fun i => oiD (wI r W i)) = TT at *
  generalize ((List.range i).map fun i => oiD (wI r W i)) = A1 at *
  generalize ((List.range' i (W.length - i)).map fun i => oiD (wI r W i)) = A2 at *
  generalize ((List.range i).filterMap fun j => (wI r W j).map fun v => F.D.int (v : Nat)) = B1 at *
  generalize ((List.range' i (W.length - i)).filterMap fun j => (wI r W j).map fun v => F.D.int (v : Nat)) = B2 at *
  generalize ahI r W i = a at *
  generalize bhI r W (W.length - i) i = b at *
  generalize wI r W i = wq at *
  cases wq with
  | some v =>
    have n1 : isntD (.int (v : Nat)) .non = some (.bl true) := rfl
    have ap : appF T0 (.int (v : Nat)) = some (.non, T1) := ap
    show b__law_ways_0 [_, _, _, _, _, _, _, some (.sh (.int (v : Nat))), _, _, _, _, _] = _
    generalize F.D.int ((v : Nat) : Int) = V at *
    generalize F.D.int ((a : Nat) : Int) = AA at *
    generalize F.D.int ((b : Nat) : Int) = BB at *
    generalize F.D.int ((b1 r : Nat) : Int) = RR at *
    generalize ((i : Nat) : Int) = I at *
    simp_arith [b__law_ways_0, ib, c1, i1a, h1, l1, k1, ng, x1, c2, i1b, h2, l2, k2, x2, n1, ap]
  | none =>
    have n1 : isntD .non .non = some (.bl false) := rfl
    have ap : appF T0 (.int ((if a = b then a else b1 r : Nat) : Int)) = some (.non, T1) := ap
    show b__law_ways_0 [_, _, _, _, _, _, _, some (.sh .non), _, _, _, _, _] = _
    by_cases e : a = b
    · rw [decide_eq_true e] at q
      rw [if_pos e] at ap
      generalize F.D.int ((a : Nat) : Int) = AA at *
      generalize F.D.int ((b : Nat) : Int) = BB at *
      generalize F.D.int ((b1 r : Nat) : Int) = RR at *
      generalize ((i : Nat) : Int) = I at *
      simp_arith [b__law_ways_0, ib, c1, i1a, h1, l1, k1, ng, x1, c2, i1b, h2, l2, k2, x2, n1, q, ap]
    · rw [decide_eq_false e] at q
      rw [if_neg e] at ap
      generalize F.D.int ((a : Nat) : Int) = AA at *
      generalize F.D.int ((b : Nat) : Int) = BB at *
      generalize F.D.int ((b1 r : Nat) : Int) = RR at *
      generalize ((i : Nat) : Int) = I at *
      simp_arith [b__law_ways_0, ib, c1, i1a, h1, l1, k1, ng, x1, c2, i1b, h2, l2, k2, x2, n1, q, ap]
theorem wy_loop (r : Bool) (W : List Kc) (hn : W.length ≤ 900) (X Y Z : F.D) : forL (.tp [(.nm 6), (.nm 7)]) b__law_ways_0 ((List.range W.length).map fun i => F.D.tup [.int (i : Nat), oiD (wI r W i)]) [some (.sh X), some (.sh (.bl r)), some (.sh Y), some (.sh Z), some (.sh (.lst (tab W.length fun i => oiD (wI r W i)))), some (.fl []), none, none, none, none, none, none, none] =
    .nx [some (.sh X), some (.sh (.bl r)), some (.sh Y), some (.sh Z), some (.sh (.lst (tab W.length fun i => oiD (wI r W i)))), some (.fl (tab W.length (vD r W))), none, none, none, none, none, none, none] :=
  for_rng (enc := fun i => F.D.tup [.int (i : Nat), oiD (wI r W i)]) (g := fun i => [some (.sh X), some (.sh (.bl r)), some (.sh Y), some (.sh Z), some (.sh (.lst (tab W.length fun i => oiD (wI r W i)))), some (.fl (tab i (vD r W))), none, none, none, none, none, none, none]) fun i hi => ⟨_, rfl, wy_step r W hn X Y Z hi⟩
theorem wy_lc (r : Bool) (W : List Kc) (e0 e1 e2 e3 : Option O) : lcL [10, 11] (.tp [(.nm 10), (.nm 11)]) mYes (mCall Z__law_way [] [] [(mVar 10), (mVar 11)]) ((List.range W.length).map fun i => F.D.tup [kFS r W i, sD r W i]) [] [e0, e1, e2, e3, none, none, none, none, none, none, none, none, none] =
    .ok (tab W.length fun i => oiD (wI r W i)) [e0, e1, e2, e3, none, none, none, none, none, none, none, none, none] := by
  have h := lc_map (enc := fun i => F.D.tup [kFS r W i, sD r W i]) (own := [10, 11]) (t := .tp [(.nm 10), (.nm 11)]) (c := mYes) (v := mCall Z__law_way [] [] [(mVar 10), (mVar 11)]) (e := [e0, e1, e2, e3, none, none, none, none, none, none, none, none, none]) (f := fun i => oiD (wI r W i)) (as := List.range W.length) (acc := []) (fun i hi => by
    have z := z_way (stI r W i) (kk W i) (rsI W i)
    have e1 : kFS r W i = .str [kFN (stI r W i) (kk W i) (rsI W i)] := rfl
    have e2 : sD r W i = .str [(stI r W i).s.c] := rfl
    rw [e1, e2]
    have e3 : oiD (wI r W i) = oiD (wO (stI r W i) (kk W i) (rsI W i)) := rfl
    rw [e3]
    generalize oiD (wO (stI r W i) (kk W i) (rsI W i)) = Q at *
    generalize F.D.str [kFN (stI r W i) (kk W i) (rsI W i)] = A at *
    generalize F.D.str [(stI r W i).s.c] = B at *
    simp_arith [lcOne, mYes, z])
  rw [h, List.nil_append]
  rfl
theorem zip_tt (n : Nat) (f g : Nat → F.D) : zipF (tab n f) (tab n g) = (List.range n).map fun i => F.D.tup [f i, g i] := zip_same
theorem z_ways (r : Bool) (W : List Kc) (hn : W.length ≤ 900) : Z__law_ways [.sh (.lst (W.map Kd.d)), .sh (.bl r)] = .rt (.fl (tab W.length (vD r W))) [.sh (.lst (W.map Kd.d)), .sh (.bl r)] := by
  have zk := z_kinds r W hn
  have i1 : itL (.lst (tab W.length (kFS r W))) = some (tab W.length (kFS r W)) := rfl
  have i2 : itL (.lst (tab W.length (sD r W))) = some (tab W.length (sD r W)) := rfl
  have zp := zip_tt W.length (kFS r W) (sD r W)
  have hl : (((List.range W.length).map fun i => F.D.tup [kFS r W i, sD r W i]).length ≤ 16777216) = True := eq_true (by rw [List.length_map, List.length_range]; omega)
  have lc := wy_lc r W (some (.sh (.lst (W.map Kd.d)))) (some (.sh (.bl r))) (some (.sh (.lst (tab W.length (kFS r W))))) (some (.sh (.lst (tab W.length (sD r W)))))
  have i3 : itEL (.lst (tab W.length fun i => oiD (wI r W i))) = some ((List.range W.length).map fun i => F.D.tup [.int (i : Nat), oiD (wI r W i)]) := by
    show some (enumF 0 (tab W.length fun i => oiD (wI r W i))) = _
    rw [enum_tab]
  have hl2 : (((List.range W.length).map fun i => F.D.tup [.int (i : Nat), oiD (wI r W i)]).length ≤ 16777216) = True := eq_true (by rw [List.length_map, List.length_range]; omega)
  have lp := wy_loop r W hn (.lst (W.map Kd.d)) (.lst (tab W.length (kFS r W))) (.lst (tab W.length (sD r W)))
  generalize W.map Kd.d = WW at *
  generalize ((List.range W.length).map fun i => F.D.tup [.int (i : Nat), oiD (wI r W i)]) = I3 at *
  generalize ((List.range W.length).map fun i => F.D.tup [kFS r W i, sD r W i]) = I1 at *
  generalize tab W.length (kFS r W) = A at *
  generalize tab W.length (sD r W) = B at *
  generalize (tab W.length fun i => oiD (wI r W i)) = C at *
  generalize tab W.length (vD r W) = V at *
  simp_arith [Z__law_ways, m__law_ways, zk, i1, i2, zp, hl, lc, i3, hl2, lp]
end Kn
end F
end

section
set_option linter.all false
set_option autoImplicit false
set_option maxRecDepth 100000
set_option maxHeartbeats 4000000
/-! k42: what waits, by what may follow -/
namespace F
local macro_rules | `(tactic| simp_arith [$ls,*] $[$loc]?) => `(tactic| simp only [runF, gdO, finR, endF, allO, sSeq, sSet, setR, sOf, leak, mNextS, andThen, mVar, mC, slot, peek, peeks, nrm, O.pk, O.frz, mIf, mTB, mTru, mAnd, mOr, mNot, mOp1, mOp2, mOl1, mOl2, mTup, mLst, mLks, mDct, mDvs, mBi, mBl, mRs, mSm0, mSm1, mSl, mSlL, mPt, mIt, mItZ, zipR, mCall, asArgs, asArg, back, ofRes, mergeO, ofO, ofOS, sIf, sRet, sRetN, sPass, sExp, sAug, sUnp, sPar, sAsg2, sSto, sBrk, sCnt, sFor, sDrop, sMatch, mtL, mOs, setAll, sPut, mItK, mMut0, mMut1, wipeE, unwipe, lcEnd, mLc, mYes, mItS, mItR, mChain, mStar, mLstD, sSlSto, mCallV, mGet2, zipS, mBad, sBad, mNotV, mAndV, mOrV, Tg.put, putAll, List.map_cons, List.map_nil, List.replicate, List.cons_append, List.nil_append, List.getElem?_cons_zero, List.getElem?_cons_succ, Option.bind_some, List.set_cons_zero, List.set_cons_succ, List.take_succ_cons, List.take_zero, List.headD_cons, List.headD_nil, List.tail_cons, List.tail_nil, Option.map_some, Option.map_none, if_true, if_false, Bool.false_eq_true, ite_true, ite_false, Bool.not_true, Bool.not_false, Bool.true_and, Bool.false_and, List.contains, List.elem, List.append_nil, List.length_cons, List.length_nil, Nat.zero_add, Nat.reduceAdd, Nat.reduceLeDiff, lim, Nat.reduceBEq, beq_self_eq_true, Bool.and_self, $ls,*] $[$loc]?)
namespace Kn
def sgK : Sg → Kc | .L => .L | .R => .R | .A => .A
def tlW : Tl → List Kc | .e => [.N] | .digit => [.D] | .sign => [.D, .S] | .joined => [.D, .T] | .run => [.N, .T]
def ahW (st : Sx) : List Kc := sgK st.s :: tlW st.t
theorem z_ahead (st : Sx) : Z__law_ahead [.sh st.d] = .rt (.fl ((ahW st).map Kd.d)) [.sh st.d] := by
  obtain ⟨s, t⟩ := st
  cases s <;> cases t <;> rfl
/-- what one text that may follow shows -/
def shV (r : Bool) (W : List Kc) (i : Nat) : F.D := if kFN (stI r W i) (kk W i) (rsI W i) ∈ [80, 69] then .tup [.str [100, 105, 103, 105, 116]] else .tup [.str [78], .int (vlI r W i : Nat)]
def rS (st : Sx) : Bool := decide (st.s = .L)
theorem eq_L (st : Sx) : eqD (.str [st.s.c]) (.str [76]) = some (.bl (rS st)) := by
  obtain ⟨s, t⟩ := st
  cases s <;> rfl
theorem sh_step (st : Sx) (w m : List Kc) (at_ : Nat) (acc : List F.D) (hn : (ahW st ++ w ++ m).length ≤ 900) (hi : at_ < (ahW st ++ w ++ m).length) (ha : acc.length ≤ 100) (e5 : Option O) (M : F.D) (hM : M = .lst (m.map Kd.d)) :
    b__law_shown_0 [some (.sh st.d), some (.sh (.lst (w.map Kd.d))), some (.sh (.int (at_ : Nat))), some (.fl acc), some (.sh (.bl (rS st))), some (.sh M), none, none] =
      .nx [some (.sh st.d), some (.sh (.lst (w.map Kd.d))), some (.sh (.int (at_ : Nat))), some (.fl (acc ++ [shV (rS st) (ahW st ++ w ++ m) at_])), some (.sh (.bl (rS st))), none, none, none] := by
  subst hM
  have za := z_ahead st
  have c1 := cat_ok' ((ahW st).map Kd.d) (w.map Kd.d) (by rw [List.length_map, List.length_map]; simp only [List.length_append] at hn; omega)
  rw [← List.map_append] at c1
  have c2 := cat_ok' ((ahW st ++ w).map Kd.d) (m.map Kd.d) (by rw [List.length_map, List.length_map]; simp only [List.length_append] at hn ⊢; omega)
  rw [← List.map_append] at c2
  generalize hW : ahW st ++ w ++ m = W at *
  have zk := z_kinds (rS st) W hn
  have zw := z_ways (rS st) W hn
  have t0 : ixD (.tup [.lst (tab W.length (kFS (rS st) W)), .lst (tab W.length (sD (rS st) W))]) (.int 0) = some (.lst (tab W.length (kFS (rS st) W))) := rfl
  have x1 := ix_tab (kFS (rS st) W) hi
  have x2 := ix_tab (vD (rS st) W) hi
  have is : inD (.str [kFN (stI (rS st) W at_) (kk W at_) (rsI W at_)]) (.str [80, 69]) = some (.bl (decide (kFN (stI (rS st) W at_) (kk W at_) (rsI W at_) ∈ [80, 69]))) := inD_sign _ _
  have ap := app_ok acc (shV (rS st) W at_) (by omega)
  have e1 : kFS (rS st) W at_ = .str [kFN (stI (rS st) W at_) (kk W at_) (rsI W at_)] := rfl
  rw [e1] at x1
  have sv : shV (rS st) W at_ = if kFN (stI (rS st) W at_) (kk W at_) (rsI W at_) ∈ [80, 69] then .tup [.str [100, 105, 103, 105, 116]] else .tup [.str [78], vD (rS st) W at_] := rfl
  rw [sv] at ap ⊢
  clear sv hW
  generalize vD (rS st) W at_ = V at *
  generalize tab W.length (kFS (rS st) W) = A at *
  generalize tab W.length (sD (rS st) W) = B at *
  generalize tab W.length (vD (rS st) W) = C at *
  generalize (ahW st ++ w).map Kd.d = W2 at *
  generalize (ahW st).map Kd.d = W1 at *
  generalize W.map Kd.d = W3 at *
  generalize w.map Kd.d = w1 at *
  generalize m.map Kd.d = m1 at *
  generalize st.d = S at *
  generalize rS st = r at *
  generalize ((at_ : Nat) : Int) = I at *
  by_cases hk : kFN (stI r W at_) (kk W at_) (rsI W at_) ∈ [80, 69]
  · rw [decide_eq_true hk] at is
    rw [if_pos hk] at ap ⊢
    generalize F.D.str [kFN (stI r W at_) (kk W at_) (rsI W at_)] = K at *
    simp_arith [b__law_shown_0, za, c1, c2, zk, t0, x1, is, ap]
  · rw [decide_eq_false hk] at is
    rw [if_neg hk] at ap ⊢
    generalize F.D.str [kFN (stI r W at_) (kk W at_) (rsI W at_)] = K at *
    simp_arith [b__law_shown_0, za, c1, c2, zk, t0, x1, is, zw, x2, ap]
abbrev shL (st : Sx) (w : List Kc) (i : Nat) : List F.D := [shV (rS st) (ahW st ++ w ++ []) i, shV (rS st) (ahW st ++ w ++ [.L]) i, shV (rS st) (ahW st ++ w ++ [.R]) i, shV (rS st) (ahW st ++ w ++ [.D]) i, shV (rS st) (ahW st ++ w ++ [.N, .D]) i]
theorem ah_len (st : Sx) : 2 ≤ (ahW st).length ∧ (ahW st).length ≤ 3 := by
  obtain ⟨s, t⟩ := st
  cases s <;> cases t <;> decide
theorem z_shown (st : Sx) (w : List Kc) (i : Nat) (hn : w.length ≤ 800) (hi : i < (ahW st).length) : Z__law_shown [.sh st.d, .sh (.lst (w.map Kd.d)), .sh (.int (i : Nat))] = .rt (.fl (shL st w i)) [.sh st.d, .sh (.lst (w.map Kd.d)), .sh (.int (i : Nat))] := by
  have hl := ah_len st
  have ln : ∀ m : List Kc, m.length ≤ 2 → (ahW st ++ w ++ m).length ≤ 900 := fun m hm => by
    rw [List.length_append, List.length_append]
    omega
  have li : ∀ m : List Kc, i < (ahW st ++ w ++ m).length := fun m => by
    rw [List.length_append, List.length_append]
    omega
  have s1 := fun acc ha => sh_step st w [] i acc (ln _ (by decide)) (li _) ha none (.lst []) rfl
  have s2 := fun acc ha => sh_step st w [.L] i acc (ln _ (by decide)) (li _) ha none (.lst [.str [76]]) rfl
  have s3 := fun acc ha => sh_step st w [.R] i acc (ln _ (by decide)) (li _) ha none (.lst [.str [82]]) rfl
  have s4 := fun acc ha => sh_step st w [.D] i acc (ln _ (by decide)) (li _) ha none (.lst [.str [68]]) rfl
  have s5 := fun acc ha => sh_step st w [.N, .D] i acc (ln _ (by decide)) (li _) ha none (.lst [.str [78], .str [68]]) rfl
  have q := eq_L st
  have x0 := sx_at0 st
  unfold shL
  generalize shV (rS st) (ahW st ++ w ++ []) i = V1 at *
  generalize shV (rS st) (ahW st ++ w ++ [.L]) i = V2 at *
  generalize shV (rS st) (ahW st ++ w ++ [.R]) i = V3 at *
  generalize shV (rS st) (ahW st ++ w ++ [.D]) i = V4 at *
  generalize shV (rS st) (ahW st ++ w ++ [.N, .D]) i = V5 at *
  have a1 := s1 [] (by decide)
  have a2 := s2 [V1] (by simp only [List.length_cons, List.length_nil]; omega)
  have a3 := s3 [V1, V2] (by simp only [List.length_cons, List.length_nil]; omega)
  have a4 := s4 [V1, V2, V3] (by simp only [List.length_cons, List.length_nil]; omega)
  have a5 := s5 [V1, V2, V3, V4] (by simp only [List.length_cons, List.length_nil]; omega)
  clear s1 s2 s3 s4 s5
  generalize st.d = S at *
  generalize w.map Kd.d = w1 at *
  generalize rS st = r at *
  generalize ((i : Nat) : Int) = I at *
  have lp : forL (.nm 5) b__law_shown_0 [.lst [], .lst [.str [76]], .lst [.str [82]], .lst [.str [68]], .lst [.str [78], .str [68]]] [some (.sh S), some (.sh (.lst w1)), some (.sh (.int I)), some (.fl []), some (.sh (.bl r)), none, none, none] =
      .nx [some (.sh S), some (.sh (.lst w1)), some (.sh (.int I)), some (.fl [V1, V2, V3, V4, V5]), some (.sh (.bl r)), none, none, none] := by
    rw [for_cons rfl a1, for_cons rfl a2, for_cons rfl a3, for_cons rfl a4, for_cons rfl a5]
    rfl
  have it : itL (.lst [.lst [], .lst [.str [76]], .lst [.str [82]], .lst [.str [68]], .lst [.str [78], .str [68]]]) = some [.lst [], .lst [.str [76]], .lst [.str [82]], .lst [.str [68]], .lst [.str [78], .str [68]]] := rfl
  generalize F.D.str [st.s.c] = C at *
  simp_arith [Z__law_shown, m__law_shown, x0, q, it, lp]
/-! the next direction -/
def vN (v : Nat) : F.D := .tup [.str [78], .int (v : Nat)]
def nxO (v1 v2 v3 v4 : Nat) : F.D := if v1 = v2 ∧ v2 = v3 ∧ v3 = v4 then .int (v1 : Nat) else .non
theorem ne_L (st : Sx) : neD (.str [st.s.c]) (.str [76]) = some (.bl (!rS st)) := by
  obtain ⟨s, t⟩ := st
  cases s <;> rfl
theorem nx_one (r : Bool) (v : Nat) (hv : v < 2) (e0 e1 e3 : Option O) : lcOne [4] (.nm 4) mYes (mIf (mTB (mOp2 eqD (mOp2 ixD (mVar 4) (mC (.int 1))) (mVar 2))) (mVar 2) (mOp2 subD (mC (.int 1)) (mVar 2))) (vN v) [e0, e1, some (.sh (.int (b1 (!r) : Nat))), e3, none] = some (some (.int (v : Nat)), [e0, e1, some (.sh (.int (b1 (!r) : Nat))), e3, none]) := by
  have ix : ixD (vN v) (.int 1) = some (.int (v : Nat)) := rfl
  have q := eq_nat v (b1 (!r))
  have sb := sub_int 1 (b1 (!r) : Nat)
  by_cases h : v = b1 (!r)
  · rw [decide_eq_true h] at q
    rw [← h] at q ⊢
    generalize vN v = VV at *
    generalize ((v : Nat) : Int) = V at *
    simp_arith [lcOne, mYes, ix, q]
  · rw [decide_eq_false h] at q
    rw [show (1 : Int) - (b1 (!r) : Nat) = (v : Nat) by
      have : b1 (!r) = 0 ∨ b1 (!r) = 1 := by cases r <;> decide
      omega] at sb
    generalize vN v = VV at *
    generalize ((v : Nat) : Int) = V at *
    generalize ((b1 (!r) : Nat) : Int) = U at *
    simp_arith [lcOne, mYes, ix, q, sb]
theorem srt4 : ∀ v1 v2 v3 v4 : Nat, v1 < 2 → v2 < 2 → v3 < 2 → v4 < 2 → usrtI [(v1 : Int), (v2 : Int), (v3 : Int), (v4 : Int)] = if v1 = v2 ∧ v2 = v3 ∧ v3 = v4 then [(v1 : Int)] else [0, 1] := by
  intro v1 v2 v3 v4 h1 h2 h3 h4
  have c : ∀ v : Nat, v < 2 → v = 0 ∨ v = 1 := fun v h => by omega
  rcases c v1 h1 with rfl | rfl <;> rcases c v2 h2 with rfl | rfl <;> rcases c v3 h3 with rfl | rfl <;> rcases c v4 h4 with rfl | rfl <;> decide
theorem z_next4 (st : Sx) (v1 v2 v3 v4 : Nat) (h1 : v1 < 2) (h2 : v2 < 2) (h3 : v3 < 2) (h4 : v4 < 2) : Z__law_next [.sh st.d, .sh (.lst [vN v1, vN v2, vN v3, vN v4])] = .rt (.sh (nxO v1 v2 v3 v4)) [.sh st.d, .sh (.lst [vN v1, vN v2, vN v3, vN v4])] := by
  have x0 := sx_at0 st
  have n := ne_L st
  have ib := int_bl (!rS st)
  have it : itL (.lst [vN v1, vN v2, vN v3, vN v4]) = some [vN v1, vN v2, vN v3, vN v4] := rfl
  have lc := lc_map (enc := vN) (own := [4]) (t := .nm 4) (c := mYes) (v := mIf (mTB (mOp2 eqD (mOp2 ixD (mVar 4) (mC (.int 1))) (mVar 2))) (mVar 2) (mOp2 subD (mC (.int 1)) (mVar 2))) (e := [some (.sh st.d), some (.sh (.lst [vN v1, vN v2, vN v3, vN v4])), some (.sh (.int (b1 (!rS st) : Nat))), none, none]) (f := fun v => F.D.int (v : Nat)) (as := [v1, v2, v3, v4]) (acc := []) (fun v hv => nx_one (rS st) v (by
    simp only [List.mem_cons, List.mem_nil_iff, or_false] at hv
    rcases hv with rfl | rfl | rfl | rfl <;> assumption) _ _ _)
  have hl : ([vN v1, vN v2, vN v3, vN v4].length ≤ 16777216) = True := eq_true (by simp only [List.length_cons, List.length_nil]; omega)
  have e4 : ([v1, v2, v3, v4].map vN) = [vN v1, vN v2, vN v3, vN v4] := rfl
  rw [e4, List.nil_append] at lc
  have e5 : ([v1, v2, v3, v4].map fun v => F.D.int (v : Nat)) = [.int (v1 : Nat), .int (v2 : Nat), .int (v3 : Nat), .int (v4 : Nat)] := rfl
  rw [e5] at lc
  have sr : srtSI (.lst [.int (v1 : Nat), .int (v2 : Nat), .int (v3 : Nat), .int (v4 : Nat)]) = some ((usrtI [(v1 : Int), (v2 : Int), (v3 : Int), (v4 : Int)]).map .int) := rfl
  rw [srt4 v1 v2 v3 v4 h1 h2 h3 h4] at sr
  unfold nxO
  clear e4 e5
  generalize F.D.lst [vN v1, vN v2, vN v3, vN v4] = VV at *
  generalize [vN v1, vN v2, vN v3, vN v4] = V4 at *
  generalize ([.int (v1 : Nat), .int (v2 : Nat), .int (v3 : Nat), .int (v4 : Nat)] : List F.D) = I4 at *
  by_cases h : v1 = v2 ∧ v2 = v3 ∧ v3 = v4
  · rw [if_pos h] at sr ⊢
    rw [List.map_cons, List.map_nil] at sr
    generalize F.D.int ((v1 : Nat) : Int) = A at *
    have ln : lenD [.lst [A]] = some (.int 1) := rfl
    have q : eqD (.int 1) (.int 1) = some (.bl true) := rfl
    have ix : ixD (.lst [A]) (.int 0) = some A := rfl
    generalize st.d = S at *
    generalize F.D.str [st.s.c] = C at *
    generalize ((b1 (!rS st) : Nat) : Int) = U at *
    generalize (!rS st) = b at *
    simp_arith [Z__law_next, m__law_next, x0, n, ib, it, hl, lc, sr, ln, q, ix]
  · rw [if_neg h] at sr ⊢
    rw [List.map_cons, List.map_cons, List.map_nil] at sr
    have ln : lenD [.lst [.int 0, .int 1]] = some (.int 2) := rfl
    have q : eqD (.int 2) (.int 1) = some (.bl false) := rfl
    generalize st.d = S at *
    generalize F.D.str [st.s.c] = C at *
    generalize ((b1 (!rS st) : Nat) : Int) = U at *
    generalize (!rS st) = b at *
    simp_arith [Z__law_next, m__law_next, x0, n, ib, it, hl, lc, sr, ln, q]
end Kn
end F
end

section
set_option linter.all false
set_option autoImplicit false
set_option maxRecDepth 100000
set_option maxHeartbeats 4000000
/-! k42: what waits is told exactly -/
namespace F
local macro_rules | `(tactic| simp_arith [$ls,*] $[$loc]?) => `(tactic| simp only [runF, gdO, finR, endF, allO, sSeq, sSet, setR, sOf, leak, mNextS, andThen, mVar, mC, slot, peek, peeks, nrm, O.pk, O.frz, mIf, mTB, mTru, mAnd, mOr, mNot, mOp1, mOp2, mOl1, mOl2, mTup, mLst, mLks, mDct, mDvs, mBi, mBl, mRs, mSm0, mSm1, mSl, mSlL, mPt, mIt, mItZ, zipR, mCall, asArgs, asArg, back, ofRes, mergeO, ofO, ofOS, sIf, sRet, sRetN, sPass, sExp, sAug, sUnp, sPar, sAsg2, sSto, sBrk, sCnt, sFor, sDrop, sMatch, mtL, mOs, setAll, sPut, mItK, mMut0, mMut1, wipeE, unwipe, lcEnd, mLc, mYes, mItS, mItR, mChain, mStar, mLstD, sSlSto, mCallV, mGet2, zipS, mBad, sBad, mNotV, mAndV, mOrV, Tg.put, putAll, List.map_cons, List.map_nil, List.replicate, List.cons_append, List.nil_append, List.getElem?_cons_zero, List.getElem?_cons_succ, Option.bind_some, List.set_cons_zero, List.set_cons_succ, List.take_succ_cons, List.take_zero, List.headD_cons, List.headD_nil, List.tail_cons, List.tail_nil, Option.map_some, Option.map_none, if_true, if_false, Bool.false_eq_true, ite_true, ite_false, Bool.not_true, Bool.not_false, Bool.true_and, Bool.false_and, List.contains, List.elem, List.append_nil, List.length_cons, List.length_nil, Nat.zero_add, Nat.reduceAdd, Nat.reduceLeDiff, lim, Nat.reduceBEq, beq_self_eq_true, Bool.and_self, $ls,*] $[$loc]?)
namespace Kn
theorem sel (s : Sg) (t : Tl) (x : Fr) : (if b1 (dS ⟨s, t⟩) = nxt (rS ⟨s, t⟩) x then b1 (dS ⟨s, t⟩) else b1 (rS ⟨s, t⟩)) = nxt (rS ⟨s, t⟩) x := by
  cases s <;> cases x <;> rfl
theorem sh1 (st : Sx) (ht : st.t = .e ∨ st.t = .run) (w m : List Kc) : shV (rS st) (ahW st ++ w ++ m) 1 = vN (nxt (rS st) (fwF .N st (w ++ m))) := by
  obtain ⟨s, t⟩ := st
  have ht : t = .e ∨ t = .run := ht
  have go : ∀ (q : List Kc) (x : Fr), fwF .N ⟨s, .e⟩ q = x → (if kFN ⟨s, .e⟩ .N q ∈ [80, 69] then F.D.tup [.str [100, 105, 103, 105, 116]] else .tup [.str [78], .int (vl (rS ⟨s, .e⟩) ⟨s, .e⟩ .N q : Nat)]) = vN (nxt (rS ⟨s, .e⟩) x) := fun q x hx => by
    have k : kFN ⟨s, .e⟩ .N q = 78 := rfl
    rw [k, if_neg (by decide)]
    have v : vl (rS ⟨s, .e⟩) ⟨s, .e⟩ .N q = nxt (rS ⟨s, .e⟩) x := by
      have : vl (rS ⟨s, .e⟩) ⟨s, .e⟩ .N q = if b1 (dS ⟨s, .e⟩) = nxt (rS ⟨s, .e⟩) (fwF .N ⟨s, .e⟩ q) then b1 (dS ⟨s, .e⟩) else b1 (rS ⟨s, .e⟩) := rfl
      rw [this, hx]
      exact sel s .e x
    rw [v]
    rfl
  rcases ht with rfl | rfl
  · have := go (w ++ m) _ rfl
    cases s <;> exact this
  · have := go (.T :: (w ++ m)) (fwF .N ⟨s, .run⟩ (w ++ m)) (by cases s <;> rfl)
    cases s <;> exact this
def dg (st : Sx) (q : List Kc) : Bool := if st.t = .sign then hD q else tEnd q && !decide (st.s = .A)
abbrev dgV : F.D := .tup [.str [100, 105, 103, 105, 116]]
theorem sh2 (st : Sx) (ht : st.t = .run ∨ st.t = .sign) (w m : List Kc) : shV (rS st) (ahW st ++ w ++ m) 2 = if dg st (w ++ m) = true then dgV else vN (nxt (rS st) (fwF .N st (w ++ m))) := by
  obtain ⟨s, t⟩ := st
  have ht : t = .run ∨ t = .sign := ht
  generalize hq : w ++ m = q
  rcases ht with rfl | rfl
  · have go : (if kFN ⟨s, .e⟩ .T q ∈ [80, 69] then dgV else .tup [.str [78], .int (vl (rS ⟨s, .e⟩) ⟨s, .e⟩ .T q : Nat)]) = if dg ⟨s, .run⟩ q = true then dgV else vN (nxt (rS ⟨s, .run⟩) (fwF .N ⟨s, .run⟩ q)) := by
      have d : digB ⟨s, .e⟩ .T q = dg ⟨s, .run⟩ q := rfl
      have k := kF_T ⟨s, .e⟩ q
      rw [d] at k
      rw [k]
      cases hd : dg ⟨s, .run⟩ q with
      | true => rfl
      | false =>
        rw [if_neg Bool.false_ne_true, if_neg (by decide), if_neg Bool.false_ne_true]
        have v : vl (rS ⟨s, .e⟩) ⟨s, .e⟩ .T q = nxt (rS ⟨s, .run⟩) (fwF .N ⟨s, .run⟩ q) := by
          unfold vl
          rw [d, hd, if_neg Bool.false_ne_true, if_pos (show waits .T = true from rfl)]
          have := sel s .e (fwF .N ⟨s, .run⟩ q)
          cases s <;> exact this
        rw [v]
        rfl
    subst hq
    cases s <;> exact go
  · have go : (if kFN ⟨s, .digit⟩ .S q ∈ [80, 69] then dgV else .tup [.str [78], .int (vl (rS ⟨s, .digit⟩) ⟨s, .digit⟩ .S q : Nat)]) = if dg ⟨s, .sign⟩ q = true then dgV else vN (nxt (rS ⟨s, .sign⟩) (fwF .N ⟨s, .sign⟩ q)) := by
      have d : digB ⟨s, .digit⟩ .S q = hD q := rfl
      have d2 : dg ⟨s, .sign⟩ q = hD q := rfl
      rw [d2]
      unfold kFN
      rw [d]
      cases hd : hD q with
      | true => cases s <;> rfl
      | false =>
        rw [if_neg Bool.false_ne_true, if_pos (show waits .S = true from rfl), if_neg (by decide), if_neg Bool.false_ne_true]
        have v : vl (rS ⟨s, .digit⟩) ⟨s, .digit⟩ .S q = nxt (rS ⟨s, .sign⟩) (fwF .N ⟨s, .sign⟩ q) := by
          unfold vl
          rw [d, hd, if_neg Bool.false_ne_true, if_pos (show waits .S = true from rfl)]
          have := sel s .digit (fwF .N ⟨s, .sign⟩ q)
          cases s <;> exact this
        rw [v]
        rfl
    subst hq
    cases s <;> exact go
theorem N_l : ∀ (q : List Kc) (st : Sx) (x : Lt), fwF .N st q = .l x → x = .N
  | [], _, x, h => by
    cases h
    rfl
  | a :: q, ⟨s, t⟩, x, h => by
    have h : (match fateF .N s a with
      | .l x => fwF x (Sx.nx ⟨s, t⟩ a) q
      | r => r) = .l x := h
    cases a <;> cases s <;> first | exact N_l q _ x h | cases h
theorem nxt_2 (r : Bool) (x : Fr) : nxt r x < 2 := by
  cases x with
  | i0 => exact (by decide : 0 < 2)
  | i1 => exact (by decide : 1 < 2)
  | dig => exact b1_2 r
  | l y => exact b1_2 r
/-- what four texts tell of the next direction -/
theorem nx_neu (r : Bool) (st : Sx) (w : List Kc) : nxO (nxt r (fwF .N st (w ++ [.L]))) (nxt r (fwF .N st (w ++ [.R]))) (nxt r (fwF .N st (w ++ [.D]))) (nxt r (fwF .N st (w ++ [.N, .D]))) = match fwF .N st w with
    | .i0 => .int 0
    | .i1 => .int 1
    | _ => .non := by
  rw [fw_app, fw_app, fw_app, fw_app]
  have hd := N_dig w st
  have hl := N_l w st
  cases h : fwF .N st w with
  | dig => exact absurd h hd
  | i0 => rfl
  | i1 => rfl
  | l x =>
    have := hl x h
    subst this
    unfold nxO
    rw [if_neg]
    rintro ⟨z, _⟩
    have z : (0 : Nat) = 1 := z
    cases z
theorem in_er (t : Tl) : inD (.str t.c) (.tup [.str [], .str [114, 117, 110]]) = some (.bl (decide (t = .e ∨ t = .run))) := tl_in1 t
theorem z_neutral (st : Sx) (w : List Kc) (hn : w.length ≤ 800) : Z__law_neutral [.sh st.d, .sh (.lst (w.map Kd.d))] = .rt (.sh (oD (neuF st w))) [.sh st.d, .sh (.lst (w.map Kd.d))] := by
  have x1 := sx_at1 st
  have ir := in_er st.t
  by_cases ht : st.t = .e ∨ st.t = .run
  · rw [decide_eq_true ht] at ir
    have zs := z_shown st w 1 hn (by have := ah_len st; omega)
    have e1 : (((1 : Nat)) : Int) = 1 := rfl
    rw [e1] at zs
    unfold shL at zs
    rw [sh1 st ht, sh1 st ht, sh1 st ht, sh1 st ht, sh1 st ht] at zs
    have sl : ∀ a b c d e : F.D, slL (.lst [a, b, c, d, e]) (some 1) none = some [b, c, d, e] := fun _ _ _ _ _ => rfl
    have zn := z_next4 st _ _ _ _ (nxt_2 (rS st) (fwF .N st (w ++ [.L]))) (nxt_2 (rS st) (fwF .N st (w ++ [.R]))) (nxt_2 (rS st) (fwF .N st (w ++ [.D]))) (nxt_2 (rS st) (fwF .N st (w ++ [.N, .D])))
    rw [nx_neu] at zn
    have fin : (match fwF .N st w with
      | .i0 => F.D.int 0
      | .i1 => .int 1
      | _ => .non) = oD (neuF st w) := by
      unfold neuF
      rw [if_pos ht]
      have hd := N_dig w st
      have hl := N_l w st
      cases h : fwF .N st w with
      | dig => exact absurd h hd
      | i0 => rfl
      | i1 => rfl
      | l x =>
        have := hl x h
        subst this
        rfl
    rw [fin] at zn
    clear fin
    generalize oD (neuF st w) = Q at *
    generalize vN (nxt (rS st) (fwF .N st (w ++ []))) = V1 at *
    generalize vN (nxt (rS st) (fwF .N st (w ++ [.L]))) = V2 at *
    generalize vN (nxt (rS st) (fwF .N st (w ++ [.R]))) = V3 at *
    generalize vN (nxt (rS st) (fwF .N st (w ++ [.D]))) = V4 at *
    generalize vN (nxt (rS st) (fwF .N st (w ++ [.N, .D]))) = V5 at *
    have sl := sl V1 V2 V3 V4 V5
    generalize w.map Kd.d = w1 at *
    generalize F.D.str st.t.c = TT at *
    generalize st.d = S at *
    simp_arith [Z__law_neutral, m__law_neutral, x1, ir, zs, sl, zn]
  · rw [decide_eq_false ht] at ir
    have fin : oD (neuF st w) = .non := by
      unfold neuF
      rw [if_neg ht]
      rfl
    rw [fin]
    generalize w.map Kd.d = w1 at *
    generalize F.D.str st.t.c = TT at *
    generalize st.d = S at *
    simp_arith [Z__law_neutral, m__law_neutral, x1, ir]
/-! what waits as S or T -/
theorem nin_rs (t : Tl) : ninD (.str t.c) (.tup [.str [114, 117, 110], .str [115, 105, 103, 110]]) = some (.bl (!decide (t = .run ∨ t = .sign))) := by cases t <;> rfl
theorem eq_run (t : Tl) : eqD (.str t.c) (.str [114, 117, 110]) = some (.bl (decide (t = .run))) := by cases t <;> rfl
theorem eq_str1 (l : List Nat) : eqD (.lst (l.map fun k => F.D.str [k])) (.lst [.str [84]]) = some (.bl (decide (l = [84]))) := by
  have hp : pls (l.map fun k => F.D.str [k]) = true := pls_all fun d hd => by
    obtain ⟨k, _, rfl⟩ := List.mem_map.mp hd
    rfl
  have hd : dps (l.map fun k => F.D.str [k]) ≤ 0 := dps_all fun d hd => by
    obtain ⟨k, _, rfl⟩ := List.mem_map.mp hd
    exact Nat.le_refl _
  have hc : cmpOk (.lst (l.map fun k => F.D.str [k])) (.lst [.str [84]]) = true := by
    unfold cmpOk
    rw [show (F.D.lst (l.map fun k => F.D.str [k])).pl = pls (l.map fun k => F.D.str [k]) from rfl, hp]
    rw [show decide ((F.D.lst (l.map fun k => F.D.str [k])).dp ≤ 50) = true from decide_eq_true (by
      show dps _ + 1 ≤ 50
      omega)]
    rfl
  have hb : eqB (.lst (l.map fun k => F.D.str [k])) (.lst [.str [84]]) = decide (l = [84]) := by
    match l with
    | [] => rfl
    | [a] =>
      show ((([a] : List Nat) == [84]) && true) = _
      rw [Bool.and_true]
      by_cases h : a = 84
      · subst h
        rfl
      · rw [decide_eq_false (by intro z; exact h (by simpa using z))]
        exact beq_eq_false_iff_ne.mpr fun z => h (by simpa using z)
    | a :: b :: l =>
      rw [decide_eq_false (by intro z; cases z)]
      show ((([a] : List Nat) == [84]) && false) = false
      rw [Bool.and_false]
  unfold eqD
  rw [hc, hb]
  rfl
theorem chs_w (w : List Kc) : chsOf (w.map Kd.d) = some (w.map Kd.c) := by
  have := chsOf_of (w.map Kd.c)
  rw [List.map_map] at this
  exact this
def allT (w : List Kc) : Bool := w.all fun k => decide (k = .T)
theorem ins_84 (w : List Kc) (hw : w ≠ []) : decide (insS (dedN (w.map Kd.c)) = [84]) = allT w := by
  have hc : ∀ k : Kc, k.c = 84 ↔ k = .T := by
    intro k
    cases k <;> decide
  rw [Bool.eq_iff_iff, decide_eq_true_eq]
  unfold allT
  rw [List.all_eq_true]
  constructor
  · intro h k hk
    have hl := insS_len (dedN (w.map Kd.c))
    rw [h] at hl
    match hx : dedN (w.map Kd.c), hl with
    | [x], _ =>
      rw [hx] at h
      have h : [x] = [84] := h
      have hm := (mem_ded k.c (w.map Kd.c)).mpr (List.mem_map.mpr ⟨k, hk, rfl⟩)
      rw [hx] at hm
      have e1 : k.c = x := by simpa using hm
      have e2 : x = 84 := by simpa using h
      exact decide_eq_true ((hc k).mp (by rw [e1, e2]))
  · intro h
    have hd : dedN (w.map Kd.c) = [84] := by
      have nd := nd_ded (w.map Kd.c)
      have hm : ∀ x ∈ dedN (w.map Kd.c), x = 84 := fun x hx => by
        obtain ⟨k, hk, rfl⟩ := List.mem_map.mp ((mem_ded x _).mp hx)
        exact (hc k).mpr (of_decide_eq_true (h k hk))
      have hne : dedN (w.map Kd.c) ≠ [] := fun z => by
        cases w with
        | nil => exact hw rfl
        | cons a w =>
          have := (mem_ded a.c ((a :: w).map Kd.c)).mpr (List.mem_cons_self ..)
          rw [z] at this
          cases this
      generalize dedN (w.map Kd.c) = l at *
      match l, nd, hm, hne with
      | [], _, _, hne => exact absurd rfl hne
      | [x], _, hm, _ => rw [hm x (List.mem_cons_self ..)]
      | x :: y :: l, nd, hm, _ =>
        have a := hm x (List.mem_cons_self ..)
        have b := hm y (List.mem_cons_of_mem _ (List.mem_cons_self ..))
        rw [a, b] at nd
        exact absurd (List.mem_cons_self ..) (List.nodup_cons.mp nd).1
    rw [hd]
    rfl
theorem srt_w (w : List Kc) (hn : w.length ≤ 60) : srtST (.lst (w.map Kd.d)) = some ((insS (dedN (w.map Kd.c))).map fun k => F.D.str [k]) := by
  show (chsOf (w.map Kd.d)).bind _ = _
  rw [chs_w]
  show (if (w.map Kd.c).length < 64 then _ else _) = _
  rw [if_pos (by rw [List.length_map]; omega)]
theorem tE_app : ∀ (w m : List Kc), allT w = false → tEnd (w ++ m) = tEnd w
  | [], _, h => by cases h
  | a :: w, m, h => by
    cases a with
    | T => exact tE_app w m h
    | _ => rfl
theorem dg_app (st : Sx) (w m : List Kc) (hw : w ≠ []) (ht : st.t ≠ .sign → allT w = false) : dg st (w ++ m) = dg st w := by
  unfold dg
  by_cases h : st.t = .sign
  · rw [if_pos h, if_pos h]
    cases w with
    | nil => exact absurd rfl hw
    | cons a w => cases a <;> rfl
  · rw [if_neg h, if_neg h, tE_app w m (ht h)]
abbrev lwt (st : Sx) : Lt := if st.t = .sign then .S else .T
theorem dg_fw (st : Sx) (w : List Kc) : dg st w = decide (fwF (lwt st) st w = .dig) := by
  unfold dg lwt
  by_cases h : st.t = .sign
  · rw [if_pos h, if_pos h]
    exact hD_S w st
  · rw [if_neg h, if_neg h]
    exact tEnd_T w st
theorem S_eqN : ∀ (q : List Kc) (st : Sx), q ≠ [] → hD q = false → fwF .S st q = fwF .N st q
  | [], _, h, _ => absurd rfl h
  | a :: q, ⟨s, t⟩, _, h => by
    cases a <;> first | (cases s <;> rfl) | cases h
theorem T_eqN : ∀ (q : List Kc) (st : Sx), allT q = false → (tEnd q && !decide (st.s = .A)) = false → fwF .T st q = fwF .N st q
  | [], _, h, _ => by cases h
  | a :: q, ⟨s, t⟩, h, g => by
    cases a with
    | T =>
      have := T_eqN q (Sx.nx ⟨s, t⟩ .T) h g
      cases s <;> exact this
    | D =>
      cases s with
      | A => rfl
      | _ => cases g
    | _ => cases s <;> rfl
theorem fw_eqN (st : Sx) (w : List Kc) (hw : w ≠ []) (ht : st.t ≠ .sign → allT w = false) (hd : dg st w = false) : fwF (lwt st) st w = fwF .N st w := by
  unfold dg at hd
  unfold lwt
  by_cases h : st.t = .sign
  · rw [if_pos h] at hd ⊢
    exact S_eqN w st hw hd
  · rw [if_neg h] at hd ⊢
    exact T_eqN w st (ht h) hd
theorem T_all : ∀ (w : List Kc) (st : Sx), allT w = true → fwF .T st w = .l .T
  | [], _, _ => rfl
  | a :: w, ⟨s, t⟩, h => by
    have h1 : a = .T := by
      have : (decide (a = .T) && w.all fun k => decide (k = .T)) = true := h
      exact of_decide_eq_true (Bool.and_eq_true_iff.mp this).1
    have h2 : allT w = true := by
      have : (decide (a = .T) && w.all fun k => decide (k = .T)) = true := h
      exact (Bool.and_eq_true_iff.mp this).2
    subst h1
    have := T_all w (Sx.nx ⟨s, t⟩ .T) h2
    cases s <;> exact this
theorem pls_w (w : List Kc) : pls (w.map Kd.d) = true := pls_all fun d hd => by
  obtain ⟨k, _, rfl⟩ := List.mem_map.mp hd
  rfl
theorem z_waiting (st : Sx) (w : List Kc) (hn : w.length ≤ 60) : Z__law_waiting [.sh st.d, .sh (.lst (w.map Kd.d))] = .rt (.sh (oD (waiF st w))) [.sh st.d, .sh (.lst (w.map Kd.d))] := by
  have x1 := sx_at1 st
  have ni := nin_rs st.t
  have en := eq_nil (pls_w w)
  have er := eq_run st.t
  have sr := srt_w w hn
  have es := eq_str1 (insS (dedN (w.map Kd.c)))
  by_cases ht : st.t = .run ∨ st.t = .sign
  case neg =>
    rw [decide_eq_false ht] at ni
    have fin : oD (waiF st w) = .non := by
      unfold waiF
      rw [if_neg ht]
      rfl
    rw [fin]
    generalize w.map Kd.d = w1 at *
    generalize F.D.str st.t.c = TT at *
    generalize st.d = S at *
    simp_arith [Z__law_waiting, m__law_waiting, x1, ni]
  rw [decide_eq_true ht] at ni
  have wf : waiF st w = match fwF (lwt st) st w with
    | .l .S => none
    | .l .T => none
    | r => some r := by
    unfold waiF
    refine (if_pos ht).trans ?_
    show _ = (match fwF (lwt st) st w with | .l .S => none | .l .T => none | r => some r)
    generalize fwF (lwt st) st w = x
    cases x with
    | l y => cases y <;> rfl
    | _ => rfl
  by_cases hw : w = []
  · subst hw
    have fin : oD (waiF st []) = .non := by
      rw [wf]
      by_cases h : st.t = .sign
      · rw [show lwt st = .S from if_pos h]
        rfl
      · rw [show lwt st = .T from if_neg h]
        rfl
    rw [fin]
    have en : eqD (.lst (([] : List Kc).map Kd.d)) (.lst []) = some (.bl true) := rfl
    generalize ([] : List Kc).map Kd.d = w1 at *
    generalize F.D.str st.t.c = TT at *
    generalize st.d = S at *
    simp_arith [Z__law_waiting, m__law_waiting, x1, ni, en]
  rw [ins_84 w hw] at es
  have en : eqD (.lst (w.map Kd.d)) (.lst []) = some (.bl false) := by
    cases w with
    | nil => exact absurd rfl hw
    | cons a w => exact en
  by_cases ha : st.t = .run ∧ allT w = true
  · rw [decide_eq_true ha.1] at er
    rw [ha.2] at es
    have fin : oD (waiF st w) = .non := by
      rw [wf]
      have : lwt st = .T := by
        unfold lwt
        rw [ha.1]
        rfl
      rw [this, T_all w st ha.2]
      rfl
    rw [fin]
    generalize ((insS (dedN (w.map Kd.c))).map fun k => F.D.str [k]) = SL at *
    generalize w.map Kd.d = w1 at *
    generalize F.D.str st.t.c = TT at *
    generalize st.d = S at *
    simp_arith [Z__law_waiting, m__law_waiting, x1, ni, en, er, sr, es]
  have hT : st.t ≠ .sign → allT w = false := fun h => by
    cases q : allT w with
    | false => rfl
    | true => exact absurd ⟨ht.resolve_right h, q⟩ ha
  have s2 : 2 < (ahW st).length := by
    obtain ⟨s, t⟩ := st
    rcases ht with h | h
    · have h : t = .run := h
      subst h
      cases s <;> decide
    · have h : t = .sign := h
      subst h
      cases s <;> decide
  have zs := z_shown st w 2 (by omega) s2
  have e2 : (((2 : Nat)) : Int) = 2 := rfl
  rw [e2] at zs
  unfold shL at zs
  rw [sh2 st ht, sh2 st ht, sh2 st ht, sh2 st ht, sh2 st ht, dg_app st w _ hw hT, dg_app st w _ hw hT, dg_app st w _ hw hT, dg_app st w _ hw hT, dg_app st w _ hw hT] at zs
  have dq := dg_fw st w
  have sl : ∀ a b c d e : F.D, slL (.lst [a, b, c, d, e]) (some 1) none = some [b, c, d, e] := fun _ _ _ _ _ => rfl
  -- the second test
  have tests : ∀ (P Q : FR), (st.t = .run ∧ P = Q) ∨ st.t ≠ .run → True := fun _ _ _ => trivial
  cases hd : dg st w with
  | true =>
    rw [hd] at dq zs
    simp only [if_true] at zs
    have fin : oD (waiF st w) = .str [100, 105, 103, 105, 116] := by
      rw [wf, of_decide_eq_true dq.symm]
      rfl
    rw [fin]
    have ind : inD dgV (.lst [dgV, dgV, dgV, dgV]) = some (.bl true) := rfl
    have sl := sl dgV dgV dgV dgV dgV
    have es' : allT w = true → st.t ≠ .run := fun h1 h2 => ha ⟨h2, h1⟩
    generalize ((insS (dedN (w.map Kd.c))).map fun k => F.D.str [k]) = SL at *
    generalize w.map Kd.d = w1 at *
    by_cases hr : st.t = .run
    · rw [decide_eq_true hr] at er
      rw [hT (by rw [hr]; intro z; cases z)] at es
      generalize F.D.str st.t.c = TT at *
      generalize st.d = S at *
      simp_arith [Z__law_waiting, m__law_waiting, x1, ni, en, er, sr, es, zs, sl, ind]
    · rw [decide_eq_false hr] at er
      generalize F.D.str st.t.c = TT at *
      generalize st.d = S at *
      simp_arith [Z__law_waiting, m__law_waiting, x1, ni, en, er, zs, sl, ind]
  | false =>
    rw [hd] at zs
    simp only [Bool.false_eq_true, if_false] at zs
    have fe := fw_eqN st w hw hT hd
    rw [fe] at wf
    have zn := z_next4 st _ _ _ _ (nxt_2 (rS st) (fwF .N st (w ++ [.L]))) (nxt_2 (rS st) (fwF .N st (w ++ [.R]))) (nxt_2 (rS st) (fwF .N st (w ++ [.D]))) (nxt_2 (rS st) (fwF .N st (w ++ [.N, .D])))
    rw [nx_neu] at zn
    have ind : ∀ a b c d : Nat, inD dgV (.lst [vN a, vN b, vN c, vN d]) = some (.bl false) := fun _ _ _ _ => rfl
    have ind := ind (nxt (rS st) (fwF .N st (w ++ [.L]))) (nxt (rS st) (fwF .N st (w ++ [.R]))) (nxt (rS st) (fwF .N st (w ++ [.D]))) (nxt (rS st) (fwF .N st (w ++ [.N, .D])))
    have sl := sl (vN (nxt (rS st) (fwF .N st (w ++ [])))) (vN (nxt (rS st) (fwF .N st (w ++ [.L])))) (vN (nxt (rS st) (fwF .N st (w ++ [.R])))) (vN (nxt (rS st) (fwF .N st (w ++ [.D])))) (vN (nxt (rS st) (fwF .N st (w ++ [.N, .D]))))
    have fin : ∃ Q : F.D, ∃ b : Bool, (match fwF .N st w with
      | .i0 => F.D.int 0
      | .i1 => .int 1
      | _ => .non) = Q ∧ isD Q .non = some (.bl b) ∧ (if b = true then F.D.str [78] else Q) = oD (waiF st w) := by
      rw [wf]
      have hdd := N_dig w st
      have hl := N_l w st
      cases h : fwF .N st w with
      | dig => exact absurd h hdd
      | i0 => exact ⟨_, false, rfl, rfl, rfl⟩
      | i1 => exact ⟨_, false, rfl, rfl, rfl⟩
      | l x =>
        have := hl x h
        subst this
        exact ⟨_, true, rfl, rfl, rfl⟩
    obtain ⟨Q, b, f1, f2, f3⟩ := fin
    rw [f1] at zn
    rw [← f3]
    clear f1 f3 wf fe dq
    generalize vN (nxt (rS st) (fwF .N st (w ++ []))) = V1 at *
    generalize vN (nxt (rS st) (fwF .N st (w ++ [.L]))) = V2 at *
    generalize vN (nxt (rS st) (fwF .N st (w ++ [.R]))) = V3 at *
    generalize vN (nxt (rS st) (fwF .N st (w ++ [.D]))) = V4 at *
    generalize vN (nxt (rS st) (fwF .N st (w ++ [.N, .D]))) = V5 at *
    generalize ((insS (dedN (w.map Kd.c))).map fun k => F.D.str [k]) = SL at *
    generalize w.map Kd.d = w1 at *
    by_cases hr : st.t = .run
    · rw [decide_eq_true hr] at er
      rw [hT (by rw [hr]; intro z; cases z)] at es
      generalize F.D.str st.t.c = TT at *
      generalize st.d = S at *
      cases b <;> simp_arith [Z__law_waiting, m__law_waiting, x1, ni, en, er, sr, es, zs, sl, ind, zn, f2]
    · rw [decide_eq_false hr] at er
      generalize F.D.str st.t.c = TT at *
      generalize st.d = S at *
      cases b <;> simp_arith [Z__law_waiting, m__law_waiting, x1, ni, en, er, zs, sl, ind, zn, f2]
end Kn
end F
end

section
set_option linter.all false
set_option autoImplicit false
set_option maxRecDepth 100000
set_option maxHeartbeats 4000000
/-! k42: what repr tells; the law -/
namespace F
namespace Kn
open PySem
def pzF : Option Fr → PyData
  | none => .none
  | some .dig => .str (sS [100, 105, 103, 105, 116])
  | some .i0 => .int 0
  | some .i1 => .int 1
  | some (.l .N) => .str (sS [78])
  | some (.l .S) => .str (sS [83])
  | some (.l .T) => .str (sS [84])
theorem pz_o (o : Option Fr) : (oD o).pz = some (pzF o) := by
  rcases o with _ | (_ | _ | _ | x)
  · rfl
  · rfl
  · rfl
  · rfl
  · cases x <;> rfl
abbrev tp (a b : Option Fr) : F.D := .tup [oD a, oD b]
abbrev tpP (a b : Option Fr) : PyData := .tuple [pzF a, pzF b]
theorem pz_t (a b : Option Fr) : (tp a b).pz = some (tpP a b) := by
  show (match (oD a).pz, (match (oD b).pz, some [] with | some p, some ps => some (p :: ps) | _, _ => none) with | some p, some ps => some (p :: ps) | _, _ => none).map PyData.tuple = _
  rw [pz_o, pz_o]
  rfl
theorem sh_o (o : Option Fr) : (pzF o).showable = true ∧ (pzF o).depth = 0 := by
  rcases o with _ | (_ | _ | _ | x)
  · exact ⟨rfl, rfl⟩
  · exact ⟨rfl, rfl⟩
  · exact ⟨by decide +kernel, rfl⟩
  · exact ⟨by decide +kernel, rfl⟩
  · cases x <;> exact ⟨rfl, rfl⟩
theorem ln_t (a b : Option Fr) : (tpP a b).shown.length ≤ 40 := by
  rcases a with _ | (_ | _ | _ | (_ | _ | _)) <;> rcases b with _ | (_ | _ | _ | (_ | _ | _)) <;> decide +kernel
theorem tf_len : ∀ (ts : List Str) (k : Nat) (acc : Str), (∀ t ∈ ts, t.length ≤ 40) → (textFrom k acc ts).length ≤ acc.length + ts.length * 42
  | [], k, acc, _ => by
    show acc.length ≤ _
    omega
  | t :: r, k, acc, h => by
    have ih := tf_len r (k + 1) (acc ++ (if k > 0 then ", " else "" : String) ++ t) fun u hu => h u (List.mem_cons_of_mem _ hu)
    have e : (acc ++ (if k > 0 then ", " else "" : String) ++ t).length = acc.length + (if k > 0 then 2 else 0) + t.length := by
      rw [strLen_append, strLen_append]
      split <;> rfl
    have ht := h t (List.mem_cons_self ..)
    have : textFrom k acc (t :: r) = textFrom (k + 1) (acc ++ (if k > 0 then ", " else "" : String) ++ t) r := rfl
    rw [this, List.length_cons]
    rw [e] at ih
    have h2 : (if k > 0 then 2 else 0) ≤ 2 := by split <;> omega
    omega
section
variable (f g : Sx → Option Fr)
theorem pzs_m : ∀ l : List Sx, pzs (l.map fun st => tp (f st) (g st)) = some (l.map fun st => tpP (f st) (g st))
  | [] => rfl
  | st :: l => by
    show (match (tp (f st) (g st)).pz, pzs (l.map fun st => tp (f st) (g st)) with
      | some p, some ps => some (p :: ps)
      | _, _ => none) = _
    rw [pz_t, pzs_m l]
    rfl
theorem nods_m : ∀ l : List Sx, nods (l.map fun st => tp (f st) (g st)) = true
  | [] => rfl
  | st :: l => by
    show ((oD (f st)).nod && ((oD (g st)).nod && true) && nods (l.map fun st => tp (f st) (g st))) = true
    rw [nods_m l]
    have h : ∀ o : Option Fr, (oD o).nod = true := fun o => by
      rcases o with _ | (_ | _ | _ | x)
      · rfl
      · rfl
      · rfl
      · rfl
      · cases x <;> rfl
    rw [h, h]
    rfl
theorem sha_m : ∀ l : List Sx, PyData.showableAll (l.map fun st => tpP (f st) (g st)) = true
  | [] => by simp [PyData.showableAll]
  | st :: l => by
    rw [List.map_cons, PyData.showableAll, sha_m l, Bool.and_true]
    simp only [PyData.showable, PyData.showableAll, (sh_o _).1, Bool.and_true]
theorem dpa_m : ∀ l : List Sx, PyData.depthAll (l.map fun st => tpP (f st) (g st)) ≤ 10
  | [] => by simp [PyData.depthAll]
  | st :: l => by
    rw [List.map_cons, PyData.depthAll]
    have := dpa_m l
    simp only [PyData.depth, PyData.depthAll, (sh_o _).2]
    omega
theorem sh_mem : ∀ l : List Sx, ∀ t ∈ PyData.shownAll (l.map fun st => tpP (f st) (g st)), t.length ≤ 40
  | [], t, h => by
    simp [PyData.shownAll] at h
  | st :: l, t, h => by
    rw [List.map_cons, PyData.shownAll] at h
    rcases List.mem_cons.mp h with rfl | h
    · exact ln_t _ _
    · exact sh_mem l t h
theorem sh_len : ∀ l : List PyData, (PyData.shownAll l).length = l.length
  | [] => by simp [PyData.shownAll]
  | a :: l => by simp [PyData.shownAll, sh_len l]
theorem rep_some (l : List Sx) (hl : l.length ≤ 100) : ∃ t, reprZ [.lst (l.map fun st => tp (f st) (g st))] = some (.str t) := by
  have pz : (F.D.lst (l.map fun st => tp (f st) (g st))).pz = some (.list (l.map fun st => tpP (f st) (g st))) := by
    show (pzs (l.map fun st => tp (f st) (g st))).map PyData.list = _
    rw [pzs_m]
    rfl
  refine ⟨(PyData.list (l.map fun st => tpP (f st) (g st))).shown.cps.toList, ?_⟩
  show (match (F.D.lst (l.map fun st => tp (f st) (g st))).pz with
    | some p => if ((F.D.lst (l.map fun st => tp (f st) (g st))).nod || (F.D.lst (l.map fun st => tp (f st) (g st))).nol) = true ∧ p.showable = true ∧ p.depth ≤ 50 ∧ p.shown.cps.toList.length ≤ F.lim then some (F.D.str p.shown.cps.toList) else none
    | none => none) = _
  rw [pz]
  dsimp only
  rw [if_pos]
  refine ⟨?_, ?_, ?_, ?_⟩
  · rw [show (F.D.lst (l.map fun st => tp (f st) (g st))).nod = nods (l.map fun st => tp (f st) (g st)) from rfl, nods_m]
    rfl
  · simp only [PyData.showable]
    exact sha_m f g l
  · simp only [PyData.depth]
    have := dpa_m f g l
    omega
  · have h1 := tf_len (PyData.shownAll (l.map fun st => tpP (f st) (g st))) 0 "[" (sh_mem f g l)
    rw [sh_len, List.length_map] at h1
    have e : (PyData.list (l.map fun st => tpP (f st) (g st))).shown.cps.toList.length = (listText (PyData.shownAll (l.map fun st => tpP (f st) (g st)))).length := by
      simp only [PyData.shown]
      rfl
    rw [e]
    unfold listText
    rw [strLen_append]
    have : (("[" : String) : Str).length = 1 := rfl
    have : (("]" : String) : Str).length = 1 := rfl
    show _ ≤ 16777216
    omega
end
end Kn
end F
end

section
set_option linter.all false
set_option autoImplicit false
set_option maxRecDepth 100000
set_option maxHeartbeats 4000000
/-! k42: the law -/
namespace F
local macro_rules | `(tactic| simp_arith [$ls,*] $[$loc]?) => `(tactic| simp only [runF, gdO, finR, endF, allO, sSeq, sSet, setR, sOf, leak, mNextS, andThen, mVar, mC, slot, peek, peeks, nrm, O.pk, O.frz, mIf, mTB, mTru, mAnd, mOr, mNot, mOp1, mOp2, mOl1, mOl2, mTup, mLst, mLks, mDct, mDvs, mBi, mBl, mRs, mSm0, mSm1, mSl, mSlL, mPt, mIt, mItZ, zipR, mCall, asArgs, asArg, back, ofRes, mergeO, ofO, ofOS, sIf, sRet, sRetN, sPass, sExp, sAug, sUnp, sPar, sAsg2, sSto, sBrk, sCnt, sFor, sDrop, sMatch, mtL, mOs, setAll, sPut, mItK, mMut0, mMut1, wipeE, unwipe, lcEnd, mLc, mYes, mItS, mItR, mChain, mStar, mLstD, sSlSto, mCallV, mGet2, zipS, mBad, sBad, mNotV, mAndV, mOrV, Tg.put, putAll, List.map_cons, List.map_nil, List.replicate, List.cons_append, List.nil_append, List.getElem?_cons_zero, List.getElem?_cons_succ, Option.bind_some, List.set_cons_zero, List.set_cons_succ, List.take_succ_cons, List.take_zero, List.headD_cons, List.headD_nil, List.tail_cons, List.tail_nil, Option.map_some, Option.map_none, if_true, if_false, Bool.false_eq_true, ite_true, ite_false, Bool.not_true, Bool.not_false, Bool.true_and, Bool.false_and, List.contains, List.elem, List.append_nil, List.length_cons, List.length_nil, Nat.zero_add, Nat.reduceAdd, Nat.reduceLeDiff, lim, Nat.reduceBEq, beq_self_eq_true, Bool.and_self, $ls,*] $[$loc]?)
namespace Kn
theorem word_key : alpha.map (fun c => Z__law_word [.sh (.str [c])]) = alpha.map fun c => .rt (.sh (kd c).d) [.sh (.str [c])] := by kernel_rfl
theorem z_word {c : Nat} (h : c ∈ alpha) : Z__law_word [.sh (.str [c])] = .rt (.sh (kd c).d) [.sh (.str [c])] := List.map_inj_left.mp word_key c h
theorem z_eff {n : Nat} {x : List Nat} (h : Al n x) (hn : n ≤ 400) : Z_effect [.sh (.str x)] = .rt (.fl (all14.map fun st => entD st (KK x))) [.sh (.str x)] := by
  have z1 := z_plain h hn
  have z3 := z_words h (Nat.le_trans hn (by decide))
  have z5 := z_effect_of (KK x)
  generalize (all14.map fun st => entD st (KK x)) = L at *
  generalize wS (KK x) = W at *
  generalize F.D.str x = X at *
  simp_arith [Z_effect, m_effect, z1, z3, z5]
theorem lc_word {n : Nat} {x : List Nat} (h : Al n x) (e0 e1 e2 e3 e4 e5 e6 e7 e8 : Option O) : lcL [9] (.nm 9) mYes (mCall Z__law_word [] [] [(mVar 9)]) (x.map chD) [] [e0, e1, e2, e3, e4, e5, e6, e7, e8, none] = .ok ((KK x).map Kd.d) [e0, e1, e2, e3, e4, e5, e6, e7, e8, none] := by
  have := lc_map (enc := chD) (own := [9]) (t := .nm 9) (c := mYes) (v := mCall Z__law_word [] [] [(mVar 9)]) (e := [e0, e1, e2, e3, e4, e5, e6, e7, e8, none]) (f := fun c => (kd c).d) (as := x) (acc := []) (fun c hc => by
    have z := z_word (h.1 c hc)
    have e : chD c = .str [c] := rfl
    rw [e]
    generalize (kd c).d = K at *
    generalize F.D.str [c] = C at *
    simp_arith [lcOne, mYes, z])
  rw [this, List.map_map]
  rfl
theorem lc_tail (w : List Kc) (e0 e1 e2 e3 e4 e5 e6 e7 e8 : Option O) : lcL [9] (.nm 9) mYes (mSl slT (mVar 9) (some (mC (.int 1))) none) (all14.map fun st => entD st w) [] [e0, e1, e2, e3, e4, e5, e6, e7, e8, none] = .ok (all14.map fun st => tp (neuF st w) (waiF st w)) [e0, e1, e2, e3, e4, e5, e6, e7, e8, none] := by
  have := lc_map (enc := fun st => entD st w) (own := [9]) (t := .nm 9) (c := mYes) (v := mSl slT (mVar 9) (some (mC (.int 1))) none) (e := [e0, e1, e2, e3, e4, e5, e6, e7, e8, none]) (f := fun st => tp (neuF st w) (waiF st w)) (as := all14) (acc := []) (fun st hc => by
    have z : slT (entD st w) (some 1) none = some (tp (neuF st w) (waiF st w)) := rfl
    generalize entD st w = E at *
    generalize tp (neuF st w) (waiF st w) = Q at *
    simp_arith [lcOne, mYes, z])
  rw [this, List.nil_append]
theorem due_step (w : List Kc) (hn : w.length ≤ 60) (acc : List F.D) (ha : acc.length ≤ 1000) (st : Sx) (e0 e1 e2 e3 e4 e7 e9 : Option O) (O5 : O) (h5 : O5 = .sh (.lst (w.map Kd.d)) ∨ O5 = .fl (w.map Kd.d)) : ∃ O5', (O5' = .sh (.lst (w.map Kd.d)) ∨ O5' = .fl (w.map Kd.d)) ∧
    b_law_0 [e0, e1, e2, e3, e4, some O5, some (.fl acc), e7, some (.sh st.d), e9] = .nx [e0, e1, e2, e3, e4, some O5', some (.fl (acc ++ [tp (neuF st w) (waiF st w)])), e7, none, e9] := by
  have z1 := z_neutral st w (by omega)
  have z2 := z_waiting st w hn
  have ap := app_ok acc (tp (neuF st w) (waiF st w)) (by omega)
  have e : tp (neuF st w) (waiF st w) = .tup [oD (neuF st w), oD (waiF st w)] := rfl
  rw [e] at ap ⊢
  generalize oD (neuF st w) = A at *
  generalize oD (waiF st w) = B at *
  generalize st.d = S at *
  generalize w.map Kd.d = w1 at *
  rcases h5 with rfl | rfl
  · exact ⟨.sh (.lst w1), .inl rfl, by simp_arith [b_law_0, z1, z2, ap]⟩
  · exact ⟨.sh (.lst w1), .inl rfl, by simp_arith [b_law_0, z1, z2, ap]⟩
end Kn
end F
end

section
set_option linter.all false
set_option autoImplicit false
set_option maxRecDepth 100000
set_option maxHeartbeats 4000000
/-! k42: the law, whole -/
namespace F
local macro_rules | `(tactic| simp_arith [$ls,*] $[$loc]?) => `(tactic| simp only [runF, gdO, finR, endF, allO, sSeq, sSet, setR, sOf, leak, mNextS, andThen, mVar, mC, slot, peek, peeks, nrm, O.pk, O.frz, mIf, mTB, mTru, mAnd, mOr, mNot, mOp1, mOp2, mOl1, mOl2, mTup, mLst, mLks, mDct, mDvs, mBi, mBl, mRs, mSm0, mSm1, mSl, mSlL, mPt, mIt, mItZ, zipR, mCall, asArgs, asArg, back, ofRes, mergeO, ofO, ofOS, sIf, sRet, sRetN, sPass, sExp, sAug, sUnp, sPar, sAsg2, sSto, sBrk, sCnt, sFor, sDrop, sMatch, mtL, mOs, setAll, sPut, mItK, mMut0, mMut1, wipeE, unwipe, lcEnd, mLc, mYes, mItS, mItR, mChain, mStar, mLstD, sSlSto, mCallV, mGet2, zipS, mBad, sBad, mNotV, mAndV, mOrV, Tg.put, putAll, List.map_cons, List.map_nil, List.replicate, List.cons_append, List.nil_append, List.getElem?_cons_zero, List.getElem?_cons_succ, Option.bind_some, List.set_cons_zero, List.set_cons_succ, List.take_succ_cons, List.take_zero, List.headD_cons, List.headD_nil, List.tail_cons, List.tail_nil, Option.map_some, Option.map_none, if_true, if_false, Bool.false_eq_true, ite_true, ite_false, Bool.not_true, Bool.not_false, Bool.true_and, Bool.false_and, List.contains, List.elem, List.append_nil, List.length_cons, List.length_nil, Nat.zero_add, Nat.reduceAdd, Nat.reduceLeDiff, lim, Nat.reduceBEq, beq_self_eq_true, Bool.and_self, $ls,*] $[$loc]?)
namespace Kn
theorem due_loop (w : List Kc) (hn : w.length ≤ 60) (e0 e1 e2 e3 e4 e7 e9 : Option O) : ∀ (l : List Sx) (acc : List F.D), acc.length + l.length ≤ 1000 → ∀ O5 : O, (O5 = .sh (.lst (w.map Kd.d)) ∨ O5 = .fl (w.map Kd.d)) → ∃ O5',
    forL (.nm 8) b_law_0 (l.map Sx.d) [e0, e1, e2, e3, e4, some O5, some (.fl acc), e7, none, e9] = .nx [e0, e1, e2, e3, e4, some O5', some (.fl (acc ++ l.map fun st => tp (neuF st w) (waiF st w))), e7, none, e9]
  | [], acc, _, O5, _ => ⟨O5, by rw [List.map_nil, List.map_nil, List.append_nil]; rfl⟩
  | st :: l, acc, ha, O5, h5 => by
    rw [List.length_cons] at ha
    obtain ⟨O5', h5', h⟩ := due_step w hn acc (by omega) st e0 e1 e2 e3 e4 e7 e9 O5 h5
    obtain ⟨O6, ih⟩ := due_loop w hn e0 e1 e2 e3 e4 e7 e9 l (acc ++ [tp (neuF st w) (waiF st w)]) (by rw [List.length_append, List.length_singleton]; omega) O5' h5'
    refine ⟨O6, ?_⟩
    rw [List.map_cons, for_cons rfl h, ih, List.append_assoc]
    rfl
def sev : List (List Kd) := [[.L, .R, .A, .D, .S, .T, .N], [.D, .S, .T, .N], [.D, .T], [.S, .T], [.A, .D, .T], [.T, .N], [.S, .D]]
theorem sev_eq : sev.map wS = [.str [76, 82, 65, 68, 83, 84, 78], .str [68, 83, 84, 78], .str [68, 84], .str [83, 84], .str [65, 68, 84], .str [84, 78], .str [83, 68]] := rfl
theorem turn1 (a m : Int) (e0 e1 e3 : Option O) : ∃ a' m',
    b_law_1 [e0, e1, some (bg a m), e3, none, none, none, none, none, none] = .nx [e0, e1, some (bg a' m'), none, none, none, none, none, none, none] := by
  obtain ⟨a1, m1, d, hd, zw⟩ := z_of_lst a m (sev.map wS) (by decide) (by decide)
  obtain ⟨w, hw, rfl⟩ := List.mem_map.mp hd
  have h01 : w ≠ [] ∧ w.length < 1000 := by
    have : ∀ w ∈ sev, w ≠ [] ∧ w.length < 1000 := by decide
    exact this w hw
  rw [sev_eq] at zw
  obtain ⟨a2, m2, x, hx, z1⟩ := z_text a1 m1 w 6 (by decide) (by decide) h01.1 h01.2
  have hx : Al 6 x := hx
  have hl : ((x.map chD).length ≤ 16777216) = True := eq_true (by rw [List.length_map]; have := hx.2; omega)
  have it := itS_x x
  have lw := lc_word hx e0 e1 (some (bg a2 m2)) e3 (some (.sh (.str x))) none none none none
  have ze := z_eff hx (by decide)
  have zs := z_states
  have i1 : itL (.lst (all14.map Sx.d)) = some (all14.map Sx.d) := rfl
  have hl1 : ((all14.map Sx.d).length ≤ 16777216) = True := eq_true (by decide)
  obtain ⟨O5, lp⟩ := due_loop (KK x) (by rw [List.length_map]; have := hx.2; omega) e0 e1 (some (bg a2 m2)) e3 (some (.sh (.str x))) (some (.fl (all14.map fun st => entD st (KK x)))) none all14 [] (by decide) (.fl ((KK x).map Kd.d)) (.inr rfl)
  rw [List.nil_append] at lp
  have i2 : itL (.lst (all14.map fun st => entD st (KK x))) = some (all14.map fun st => entD st (KK x)) := rfl
  have hl2 : ((all14.map fun st => entD st (KK x)).length ≤ 16777216) = True := eq_true (by rw [List.length_map]; decide)
  have lt := fun (e5 e6 e7 : Option O) => lc_tail (KK x) e0 e1 (some (bg a2 m2)) e3 (some (.sh (.str x))) e5 e6 e7 none
  obtain ⟨rt, hr⟩ := rep_some (fun st => neuF st (KK x)) (fun st => waiF st (KK x)) all14 (by decide)
  have nq : neD (.str rt) (.str rt) = some (.bl false) := by rw [ne_strs, beq_self_eq_true]; rfl
  refine ⟨a2, m2, ?_⟩
  clear hd hw hx
  generalize (all14.map fun st => tp (neuF st (KK x)) (waiF st (KK x))) = Q at *
  generalize (all14.map fun st => entD st (KK x)) = E at *
  generalize all14.map Sx.d = S14 at *
  generalize (KK x).map Kd.d = WW at *
  generalize x.map chD = I at *
  generalize F.D.str x = X at *
  generalize F.D.str rt = RT at *
  generalize wS w = W at *
  simp_arith [b_law_1, zw, z1, it, hl, lw, ze, zs, i1, hl1, lp, i2, hl2, lt, hr, nq]
theorem loop1 (e0 e1 : Option O) : ∀ (ds : List F.D) (a m : Int), ∃ a' m',
    forL (.nm 3) b_law_1 ds [e0, e1, some (bg a m), none, none, none, none, none, none, none] = .nx [e0, e1, some (bg a' m'), none, none, none, none, none, none, none]
  | [], a, m => ⟨a, m, rfl⟩
  | d :: ds, a, m => by
    obtain ⟨a1, m1, h⟩ := turn1 a m e0 e1 (some (.sh d))
    obtain ⟨a2, m2, ih⟩ := loop1 e0 e1 ds a1 m1
    exact ⟨a2, m2, by rw [for_cons rfl h]; exact ih⟩
theorem turn2 (ns : List Int) (hn : ns.length ≤ 63) (i : Int) (hi : 0 ≤ i) :
    b_law_2 [some (.sh (.lst (ns.map .int))), some (.sh (.int i)), none, none, none, none, none, none, none, none] = .nx [some (.sh (.lst (ns.map .int))), none, none, none, none, none, none, none, none, none] := by
  obtain ⟨a0, m0, zb⟩ := z_bag ns hn i hi
  obtain ⟨a1, m1, lp⟩ := loop1 (some (.sh (.lst (ns.map .int)))) (some (.sh (.int i))) [.int 0, .int 1, .int 2, .int 3] a0 m0
  have it : itR1 (.int 4) = some [.int 0, .int 1, .int 2, .int 3] := rfl
  generalize F.D.lst (ns.map .int) = S at *
  simp_arith [b_law_2, zb, it, lp]
theorem plain (ns : List Int) (h : ns.length ≤ 63) : ∃ os, Z_law [.sh (.lst (ns.map .int))] = .rt (.sh (.bl true)) os := by
  have ll := len_lst (ns.map F.D.int)
  have mi := min_int 3 ((ns.map F.D.int).length : Nat)
  have ma := max_int 2 (if ((ns.map F.D.int).length : Int) < 3 then ((ns.map F.D.int).length : Int) else 3)
  have hb : 0 ≤ (if (if ((ns.map F.D.int).length : Int) < 3 then ((ns.map F.D.int).length : Int) else 3) > 2 then (if ((ns.map F.D.int).length : Int) < 3 then ((ns.map F.D.int).length : Int) else 3) else 2) ∧ (if (if ((ns.map F.D.int).length : Int) < 3 then ((ns.map F.D.int).length : Int) else 3) > 2 then (if ((ns.map F.D.int).length : Int) < 3 then ((ns.map F.D.int).length : Int) else 3) else 2) ≤ 3 := by
    constructor
    · repeat' split
      all_goals omega
    · repeat' split
      all_goals omega
  generalize (if (if ((ns.map F.D.int).length : Int) < 3 then ((ns.map F.D.int).length : Int) else 3) > 2 then (if ((ns.map F.D.int).length : Int) < 3 then ((ns.map F.D.int).length : Int) else 3) else 2) = n at *
  generalize (if ((ns.map F.D.int).length : Int) < 3 then ((ns.map F.D.int).length : Int) else 3) = n1 at *
  have it : itR1 (.int n) = some (rngF 0 n.toNat) := if_pos ⟨by omega, by omega⟩
  have lp : ∀ (ds : List F.D), (∀ d ∈ ds, ∃ i : Int, 0 ≤ i ∧ d = .int i) → forL (.nm 1) b_law_2 ds [some (.sh (.lst (ns.map .int))), none, none, none, none, none, none, none, none, none] = .nx [some (.sh (.lst (ns.map .int))), none, none, none, none, none, none, none, none, none] := by
    intro ds
    induction ds with
    | nil => exact fun _ => rfl
    | cons d ds ih =>
      intro hd
      obtain ⟨i, hi, rfl⟩ := hd d (List.mem_cons_self ..)
      rw [for_cons rfl (turn2 ns h i hi)]
      exact ih fun d hd' => hd d (List.mem_cons_of_mem _ hd')
  have lp := lp (rngF 0 n.toNat) (fun d hd => by
    rw [rngF_map] at hd
    obtain ⟨i, _, rfl⟩ := List.mem_map.mp hd
    exact ⟨_, by omega, rfl⟩)
  generalize rngF 0 n.toNat = R at *
  generalize ((ns.map F.D.int).length : Int) = Ln at *
  generalize ns.map F.D.int = S at *
  exact ⟨[.sh (.lst S)], by simp_arith [Z_law, m_law, ll, mi, ma, it, lp]⟩
end Kn
theorem plain (ns : List Int) (h : ns.length ≤ 63) : ∃ os, Z_law [.sh (.lst (ns.map .int))] = .rt (.sh (.bl true)) os := Kn.plain ns h
end F
end

section
set_option Elab.async false
set_option linter.all false
set_option autoImplicit false
set_option maxRecDepth 100000
set_option maxHeartbeats 0
namespace F
open PySem PySem.Spec PyProof.Rows L2
theorem facts {P : Program} {w : World} {K : PySem.W.Frag} {h : Heap} {mg : Str → Option Value} {f : Addr} (X : K.In h) (G : h.Ns mainGlobals mg) (hfa : mg ("law" : Str) = some (.ref f)) (c : He.SaysX fa fn ts tf exB w h K) :
    ∃ fd : FuncData, (∀ (s : Shared) (v : Value), BindsTo s fd ⟨[v], []⟩ [("_law_script", v)]) ∧ ∀ base : Heap, K.In base → base.Ns mainGlobals mg → Bx K mg base → FnQ P w K mg base (L2.CX P w) 8 f fd ["_law_script"] (spF (tb K) ⟨K, (tb K).cls, (tb K).fld, (tb K).tabs, (tb K).ex, (tb K).exM, (tb K).exR⟩ Z_law 1) := by
  have F : Fx w K mg := ⟨h, X, G, c⟩
  have e := hfa.symm.trans (g_law F)
  cases e
  obtain ⟨fd, hf⟩ := fd_law F
  have b := FunD.bindsA (ps := ["_law_script"]) hf fun _ _ _ _ _ _ us hl => match us, hl with | [_], _ => rfl
  refine ⟨fd, fun s v => b s [v] rfl, fun base _ _ B => ?_⟩
  obtain ⟨fd', hf', h'⟩ := o_law (P := P) (base := base) F B
  rw [fd_uniq hf hf']
  exact h'
end F
open PySem PySem.W PySem.Calls PyProof.Rows
theorem PySem.Challenge.cw_holedlines_k42_whole_effects_by_what_may_holds : PySem.Challenge.rw_holedlines_k42_whole_effects_by_what_may.Holds := by
  w_on; o_law
  refine HandSHeadRun.head_any (r := F.RW) (q := view F.RW.prog [46]) (H := F.hk) (ob := F.ob) (M := 8000) (loose := F.names) (d := HandSHeadRun.topDef F.RW.prog 46) (kwd := []) F.ob_eq
    (by kernel_rfl) (fun s => by kernel_rfl) F.run (by kernel_rfl) (by kernel_rfl) (by kernel_rfl) (by rfl) (by first | assumption | decide +kernel) (by decide +kernel) ⟨rfl, rfl, rfl, rfl, rfl, by decide +kernel⟩ ?hw ?hc
  case hw => w_witness2
  case hc =>
    refine F.walk_q (l := PySem.Challenge.rw_holedlines_k42_whole_effects_by_what_may) (n := 63) (k := 8) (x := "_law_script") (CX := fun w => L2.CX PySem.Challenge.rw_holedlines_k42_whole_effects_by_what_may.prog w) rfl (by decide) (by kernel_rfl) ⟨rfl, by decide, by decide⟩ ?F (fun _ => F.no_exc)
    intro w mg fa h Y G hmg0
    obtain ⟨K, KX, c⟩ := Y
    have hmg : mg ("law" : PySem.Str) = some (.ref fa) := by
      have e : (HandSHeadRun.topDef F.RW.prog 46).name = ("law" : PySem.Str) := by kernel_rfl
      rw [← e]
      exact hmg0
    obtain ⟨fd, hb, hF⟩ := F.facts (P := PySem.Challenge.rw_holedlines_k42_whole_effects_by_what_may.prog) (w := w) KX G hmg c
    refine ⟨K, KX, fd, F.tf.map (He.cT K), _, ⟨?_, ?_, ?_⟩, hb, fun H a ns hl _ hT hS => F.law_end (t := F.tb K) F.plain H a ns hl (fun p hp => ?_) hS, fun base hK hG hB => hF base hK hG fun p hp => hB _ (List.mem_map.mpr ⟨p, hp, rfl⟩)⟩
    · intro p hp
      obtain ⟨q, hq, e⟩ := List.mem_map.mp hp
      rw [← e]
      exact c.empty q hq
    · intro p hp
      obtain ⟨q, hq, e⟩ := List.mem_map.mp hp
      rw [← e]
      exact c.out q hq
    · intro p hp
      obtain ⟨q, hq, e⟩ := List.mem_map.mp hp
      rw [← e]
      exact codeHd_of_K KX (c.hd q hq)
    · obtain ⟨q, hq, e⟩ := List.mem_map.mp hp
      rw [← e]
      exact hT _ (List.mem_map.mpr ⟨_, F.tf_of q hq, rfl⟩)
end

