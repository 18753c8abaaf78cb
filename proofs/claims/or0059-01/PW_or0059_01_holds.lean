import PyProof.Rows.All
import Wide.All
import OpenK.AllK
import Wide.FinOn
import Lean
import PySem.Challenge.RW_or0059_01
open PySem PySem.W PyProof.Rows PySem.Calls
set_option Elab.async false
set_option maxRecDepth 100000
set_option maxHeartbeats 8000000
namespace Mine
section
local macro_rules | `(tactic| o_head $_) => `(tactic| assumption)
theorem hd (X : PySem.Challenge.rw_or0059_01.row.Holds) : PySem.Challenge.rw_or0059_01.row.Holds := by k_head
end
def viewQ : Program := view PySem.Challenge.rw_or0059_01.row.prog [0, 2, 3, 4, 5, 7, 8, 9, 10, 11, 12, 14, 15, 16, 18, 19, 20, 21, 22, 23, 24, 25, 26, 27, 28, 29, 30, 31, 32, 34, 35, 36, 37, 38]
theorem fill_all : ∀ w : World, (hd.heap_1 w.params).In (default : Heap) → PySem.Challenge.rw_or0059_01.row.prog = PySem.Challenge.rw_or0059_01.row.prog := by
  k_fill
  intros; rfl
theorem lt_ne {d : Addr} {l : List (Addr × Obj)} (h : ∀ p ∈ l, p.1 < d) : ∀ p ∈ l, p.1 ≠ d := fun p hp => Nat.ne_of_lt (h p hp)
local macro_rules | `(tactic| k_allIn) => `(tactic| exact fun _ hp9 => List.mem_append_left _ hp9)
local macro_rules | `(tactic| k_ownIn) => `(tactic| exact List.mem_append_right _ (by assumption))
local macro_rules | `(tactic| k_all) => `(tactic| assumption)
local macro_rules | `(tactic| k_all) => `(tactic| exact lt_ne (ktn_ltOf (by assumption)))
local macro_rules | `(tactic| k_room) => `(tactic| ktr_room)
local macro_rules | `(tactic| walk_at $s:str) => `(tactic| k_extra $s)
section
open PySem PySem.W PyProof.Rows PySem.Calls
theorem end_through (t : Thread) : (endAt 0 t).isSome = through t := by
  obtain ⟨cur, code, pos, stack⟩ := t
  unfold endAt through
  cases stack with
  | cons f l => cases cur <;> simp
  | nil =>
    cases cur with
    | pure f => cases f <;> simp
    | _ => simp
theorem top_of_seg {tb : String → Option Builtin} {p : Program} {w : World} {n₀ : Nat} {ann : Option Value} : ∀ {n : Nat} {s s' : Shared} {t : Thread} {f : Flow} {c : Code} {q : Pos}, segRun tb p w n₀ ann 0 n s t = some (f, s', c, q) → topRun tb p w n₀ ann n s t = some s'
  | 0, _, _, _, _, _, _, h => by cases h
  | n + 1, s, s', t, f, c, q, h => by
    have e := end_through t
    unfold segRun at h
    unfold topRun
    cases he : endAt 0 t with
    | some x =>
      rw [he] at h e
      rw [← e]
      cases h
      rfl
    | none =>
      rw [he] at h e
      rw [← e]
      cases hk : stepOk n₀ ann t with
      | false => rw [hk] at h; cases h
      | true =>
        rw [hk] at h
        cases hs : step (denote tb) p w s t with
        | halt o s' => rw [hs] at h; cases h
        | go s₂ t₂ => rw [hs] at h; exact top_of_seg h
theorem left_of {p q : Program} {loose : List PySem.Str} {Xt : Shared → Bool} {α : Type} {Yf : Shared → α} {Ya : World → α} {N : Nat} {g0 : Bool} (R : World → OsState → Option Shared)
    (op : ∀ w : World, (fencedOpening treeTable p w N).map (fun s => (s.heap, s.gens, s.drawn, s.toks)) = some (boot_heap w.params, Array.mk [], boot_drawn, boot_toks))
    (size : ∀ w : World, ((boot_heap w.params).isNs mainGlobals, (boot_heap w.params).objs.size, (boot_heap w.params).nsMap mainGlobals "__annotations__") = (true, 11, some (.ref 6)))
    (run : ∀ w os s, R w os = some s → topRun treeTable p w 11 (some (.ref 6)) N ⟨boot_heap w.params, Array.mk [], boot_drawn, boot_toks, os⟩ (topStub p) = some s)
    (c1 : ∀ w os, (R w os).map (fun s => staticsOk (importedModules p.main.body) (boot_heap w.params) s.heap && namesBound p s.heap && gensDone s && laidKept (boot_heap w.params) s.heap) = some true)
    (c2 : ∀ w os, (R w os).map (openSeen q loose (importedModules p.main.body) Xt g0) = some (openGood q loose))
    (c3 : ∀ w os, (R w os).map Yf = some (Ya w)) : LeftO p q loose Xt Yf Ya N g0 := by
  intro w
  obtain ⟨⟨h, gs, d, k, os⟩, e, e'⟩ := Option.map_eq_some_iff.mp (op w)
  simp only [Prod.mk.injEq] at e'
  obtain ⟨rfl, rfl, rfl, rfl⟩ := e'
  obtain ⟨s, hs, h1⟩ := Option.map_eq_some_iff.mp (c1 w os)
  have h2 := c2 w os
  have h3 := c3 w os
  rw [hs] at h2 h3
  have h2 := Option.some.inj h2
  have h3 := Option.some.inj h3
  have z := size w
  simp only [Prod.mk.injEq] at z
  obtain ⟨z1, z2, z3⟩ := z
  have ht : topFrom treeTable p w N ⟨boot_heap w.params, Array.mk [], boot_drawn, boot_toks, os⟩ = some s := by
    unfold topFrom
    dsimp only
    rw [z1, z2, z3, run w os s hs]
    show (match (staticsOk _ _ _ && namesBound _ _ && gensDone _ && laidKept _ _) with | true => some s | false => none) = some s
    rw [h1]
  unfold openEnds
  rw [e]
  show (topFrom treeTable p w N _).map _ = _
  rw [ht]
  show some (_, _) = _
  rw [h2, h3]
end
section
open PySem PySem.W PyProof.Rows PySem.Calls
noncomputable def bootT (P : Params) : BT := (.node (boot_o_0 P) (.node (boot_o_1 P) (.node (boot_o_3 P) (.node (boot_o_7 P) .nil .nil) .nil) (.node (boot_o_5 P) (.node (boot_o_9 P) .nil .nil) .nil)) (.node (boot_o_2 P) (.node (boot_o_4 P) (.node (boot_o_8 P) .nil .nil) .nil) (.node (boot_o_6 P) (.node (boot_o_10 P) .nil .nil) .nil)))
noncomputable def s0 (w : World) (os : OsState) : SharedT := ⟨bootT w.params, 11, {}, Array.mk [], boot_drawn, boot_toks, os⟩
theorem boot_abs (P : Params) : absHeap (bootT P) 11 {} = boot_heap P := by kernel_rfl
def addrs : List Addr := [2,3,15,17,18,20,21,22,29,30,32,33,35,36,37,39,40,42,43,44,45,46,47,50,57,58,59,62,69,70,71,74,81,82,83,86,88,89,91,92,93,96,97,98,101,102,103,106,107,108,111,112,113,115,116,118,119,120,122,123,125,126,134,136,137,139,140,141,143,144,146,147,148,149,150,151,152,155,157,158,160,161,162,164,165,167,168,169,171,172,174,175,176,178,179,181,182,183,185,186,188,189,190,192,193,195,196,204,205,207,208,210,211,212,214,215,217,218,219,221,222,224,225,226,228,229,231,232,233,235,236,238,239,240,242,243,245,246,247,249,250,252,253,254,256,257,259,260,261,263,264,266,267,268,270,271,273,274,275,277,278,280,281,282,284,285,287,288,289,291,292,294,295,296,298,299,301,302,303,305,306,308,309,310,312,313,315,316,317,319,320,322,323,324,326,327,329,330,331,333,334,336,337,338,340,341,343,344,345,347,348,350,351,352,354,355,357,358,359,361,362,364,365,366,369,370,371,372,374,375,377,378,379,380,381,382,383,386,387,388,390,391,393,394,395,397,398,400,401,402,405,406]
theorem addrs_eq (P : Params) : addrs = (hd.heap_1 P).map (·.1) := by kernel_rfl
theorem h_open : ∀ w : World, (fencedOpening treeTable PySem.Challenge.rw_or0059_01.row.prog w 4000).map (fun s => (s.heap, s.gens, s.drawn, s.toks)) = some (boot_heap w.params, Array.mk [], boot_drawn, boot_toks) := boot_open (by kernel_rfl) (by decide) (fun s => by kernel_rfl)
theorem h_size (w : World) : ((boot_heap w.params).isNs mainGlobals, (boot_heap w.params).objs.size, (boot_heap w.params).nsMap mainGlobals "__annotations__") = (true, 11, some (.ref 6)) := by kernel_rfl
noncomputable abbrev looseQ : List PySem.Str := [PySem.Str.ofString "PostError"]
abbrev xtQ (s : Shared) : Bool := xlAt viewQ [] s && recOk (RowW.records PySem.Challenge.rw_or0059_01.row.toRowW) s
end
section
open PySem PySem.W PyProof.Rows PySem.Calls
noncomputable abbrev tx := PySem.Str.ofString
noncomputable abbrev kh := PySem.PyData.keyHash
noncomputable def hob (P : Params) (i : Nat) : Obj := match (hd.heap_1 P).drop i with
  | p :: _ => p.2
  | [] => default
noncomputable def fob (P : Params) (i : Nat) : FuncData := match (hob P i).data with
  | .func f => f
  | _ => default
noncomputable def ob_11_0 (P : Params) : Obj := { cls := Value.type "tuple", data := Data.seq #[] }
noncomputable def ob_12_0 (P : Params) : Obj := { cls := Value.none, data := Data.fields #[] }
noncomputable def ob_13_0 (P : Params) : Obj := { cls := Value.type "code", data := Data.fields #[Value.str (tx "<module>") 182, Value.str (tx "<module>") 183, Value.str (tx "/claim/cut.py") 184, Value.int 1 0, Value.int 0 0, Value.int 0 0, Value.int 0 0, Value.int 0 0, Value.ref 11, Value.bool Bool.false, Value.int 181 0, Value.ref 12, Value.none, Value.none, Value.none, Value.none, Value.int 185 0, Value.int 1 0, Value.str (tx "/claim/cut.py") 186] }
noncomputable def ob_14_0 (P : Params) : Obj := { cls := Value.type "frame", slots := #[some (Value.ref 13), some (Value.ref 3), some (Value.ref 3), none, some (Value.str (tx "__main__") 164), none, some (Value.ref 0)] }
noncomputable def tr_0 (P : Params) : BT := (.node (boot_o_0 P) (.node (boot_o_1 P) (.node (boot_o_3 P) (.node (boot_o_7 P) .nil .nil) (.node (ob_11_0 P) .nil .nil)) (.node (boot_o_5 P) (.node (boot_o_9 P) .nil .nil) (.node (ob_13_0 P) .nil .nil))) (.node (boot_o_2 P) (.node (boot_o_4 P) (.node (boot_o_8 P) .nil .nil) (.node (ob_12_0 P) .nil .nil)) (.node (boot_o_6 P) (.node (boot_o_10 P) .nil .nil) (.node (ob_14_0 P) .nil .nil))))
noncomputable def st_0 (w : World) (os : OsState) : SharedT := ⟨tr_0 w.params, 15, { }, Array.mk [], { }, 187, os⟩
abbrev ps_0 : Pos := { line := 0, col := 0, endLine := 0, endCol := 0 }
noncomputable def ob_3_1 (P : Params) : Obj := { cls := Value.type "dict", data := Data.dict #[{ hash := kh P (tx "__name__"), key := Value.str (tx "__name__") 165, val := Value.str (tx "postkeep.wire") 339 }, { hash := kh P (tx "__doc__"), key := Value.str (tx "__doc__") 166, val := Value.none }, { hash := kh P (tx "__package__"), key := Value.str (tx "__package__") 167, val := Value.none }, { hash := kh P (tx "__loader__"), key := Value.str (tx "__loader__") 168, val := Value.builtin "__main__.__loader__#opaque" }, { hash := kh P (tx "__spec__"), key := Value.str (tx "__spec__") 169, val := Value.none }, { hash := kh P (tx "__annotations__"), key := Value.str (tx "__annotations__") 170, val := Value.ref 6 }, { hash := kh P (tx "__builtins__"), key := Value.str (tx "__builtins__") 171, val := Value.ref 4 }, { hash := kh P (tx "__file__"), key := Value.str (tx "__file__") 173, val := Value.str (tx "/claim/cut.py") 172 }, { hash := kh P (tx "__cached__"), key := Value.str (tx "__cached__") 174, val := Value.none }, { hash := kh P (tx "_wall"), key := Value.str (tx "_wall") 193, val := Value.ref 21 }, { hash := kh P (tx "PostError"), key := Value.str (tx "PostError") 235, val := Value.ref 46 }, { hash := kh P (tx "WordFault"), key := Value.str (tx "WordFault") 251, val := Value.ref 59 }, { hash := kh P (tx "WireFault"), key := Value.str (tx "WireFault") 267, val := Value.ref 71 }, { hash := kh P (tx "QueryFault"), key := Value.str (tx "QueryFault") 283, val := Value.ref 83 }, { hash := kh P (tx "CRLF"), key := Value.str (tx "CRLF") 287, val := Value.bytes #[13, 10] 286 }, { hash := kh P (tx "lower_code"), key := Value.str (tx "lower_code") 294, val := Value.ref 92 }, { hash := kh P (tx "lower"), key := Value.str (tx "lower") 300, val := Value.ref 97 }, { hash := kh P (tx "lower_text"), key := Value.str (tx "lower_text") 306, val := Value.ref 102 }, { hash := kh P (tx "upper_text"), key := Value.str (tx "upper_text") 312, val := Value.ref 107 }, { hash := kh P (tx "ascii_text"), key := Value.str (tx "ascii_text") 318, val := Value.ref 112 }, { hash := kh P (tx "QUOTE_query"), key := Value.str (tx "QUOTE_query") 322, val := Value.int 34 321 }, { hash := kh P (tx "word_here"), key := Value.str (tx "word_here") 330, val := Value.ref 119 }, { hash := kh P (tx "modseq_here"), key := Value.str (tx "modseq_here") 338, val := Value.ref 126 }, { hash := kh P (tx "QUOTE_wire"), key := Value.str (tx "QUOTE_wire") 342, val := Value.int 34 341 }, { hash := kh P (tx "BACKSLASH"), key := Value.str (tx "BACKSLASH") 344, val := Value.int 92 343 }, { hash := kh P (tx "MOST_DEPTH"), key := Value.str (tx "MOST_DEPTH") 346, val := Value.int 30 345 }, { hash := kh P (tx "MOST_FIGURES"), key := Value.str (tx "MOST_FIGURES") 348, val := Value.int 19 347 }, { hash := kh P (tx "MOST_COUNT_FIGURES"), key := Value.str (tx "MOST_COUNT_FIGURES") 350, val := Value.int 10 349 }, { hash := kh P (tx "SPECIALS"), key := Value.str (tx "SPECIALS") 352, val := Value.bytes #[40, 41, 123, 37, 42, 34, 92, 93] 351 }, { hash := kh P (tx "VALUE_SPECIALS"), key := Value.str (tx "VALUE_SPECIALS") 354, val := Value.bytes #[40, 41, 123, 34, 93] 353 }, { hash := kh P (tx "Atom"), key := Value.str (tx "Atom") 390, val := Value.ref 150 }, { hash := kh P (tx "is_printable"), key := Value.str (tx "is_printable") 397, val := Value.ref 161 }, { hash := kh P (tx "is_atom_code"), key := Value.str (tx "is_atom_code") 404, val := Value.ref 168 }, { hash := kh P (tx "is_astring_code"), key := Value.str (tx "is_astring_code") 411, val := Value.ref 175 }, { hash := kh P (tx "is_value_code"), key := Value.str (tx "is_value_code") 418, val := Value.ref 182 }, { hash := kh P (tx "is_figure"), key := Value.str (tx "is_figure") 425, val := Value.ref 189 }, { hash := kh P (tx "number_of_figures"), key := Value.str (tx "number_of_figures") 434, val := Value.ref 196 }] 37 }
noncomputable def ob_12_1 (P : Params) : Obj := { cls := Value.none, data := Data.fields #[Value.int 1 0, Value.int 0 0, Value.ref 20, Value.int 5 0, Value.int 0 0, Value.ref 27, Value.int 14 0, Value.int 0 0, Value.ref 55, Value.int 16 0, Value.int 0 0, Value.ref 67, Value.int 18 0, Value.int 0 0, Value.ref 79, Value.int 22 0, Value.int 0 0, Value.ref 91, Value.int 24 0, Value.int 0 0, Value.ref 96, Value.int 26 0, Value.int 0 0, Value.ref 101, Value.int 28 0, Value.int 0 0, Value.ref 106, Value.int 30 0, Value.int 0 0, Value.ref 111, Value.int 37 0, Value.int 0 0, Value.ref 118, Value.int 44 0, Value.int 0 0, Value.ref 125, Value.int 61 0, Value.int 0 0, Value.ref 132, Value.int 68 0, Value.int 0 0, Value.ref 160, Value.int 70 0, Value.int 0 0, Value.ref 167, Value.int 72 0, Value.int 0 0, Value.ref 174, Value.int 74 0, Value.int 0 0, Value.ref 181, Value.int 76 0, Value.int 0 0, Value.ref 188, Value.int 78 0, Value.int 0 0, Value.ref 195] }
noncomputable def ob_16_1 (P : Params) : Obj := { cls := Value.none, data := Data.fields #[] }
noncomputable def ob_19_1 (P : Params) : Obj := Obj.mk (Value.none) (none) (Data.func (FuncData.mk (tx "_wall") (tx "_wall") (fob P 6).params (fob P 6).body (fob P 6).scope 0 ([]) (Value.none) (Value.none) (Value.none) (Value.none) (none) (Value.none) (Value.none) 0)) (#[])
noncomputable def ob_23_1 (P : Params) : Obj := { cls := Value.type "builtin_function_or_method", data := Data.fields #[Value.builtin "type.__prepare__", Value.type "type"] }
noncomputable def ob_24_1 (P : Params) : Obj := { cls := Value.type "dict", data := Data.dict #[{ hash := kh P (tx "__module__"), key := Value.str (tx "__module__") 203, val := Value.str (tx "postkeep.errors") 194 }, { hash := kh P (tx "__qualname__"), key := Value.str (tx "__qualname__") 205, val := Value.str (tx "PostError") 204 }, { hash := kh P (tx "__firstlineno__"), key := Value.str (tx "__firstlineno__") 207, val := Value.int 5 206 }, { hash := kh P (tx "__init__"), key := Value.str (tx "__init__") 218, val := Value.ref 36 }, { hash := kh P (tx "told"), key := Value.str (tx "told") 225, val := Value.ref 43 }, { hash := kh P (tx "__static_attributes__"), key := Value.str (tx "__static_attributes__") 228, val := Value.ref 44 }] 6 }
noncomputable def ob_25_1 (P : Params) : Obj := { cls := Value.type "tuple", data := Data.seq #[] }
noncomputable def ob_26_1 (P : Params) : Obj := { cls := Value.none, data := Data.fields #[Value.int 7 0, Value.int 4 0, Value.ref 35, Value.int 12 0, Value.int 4 0, Value.ref 42] }
noncomputable def ob_27_1 (P : Params) : Obj := { cls := Value.type "code", data := Data.fields #[Value.str (tx "PostError") 198, Value.str (tx "PostError") 199, Value.str (tx "/claim/cut.py") 200, Value.int 5 0, Value.int 0 0, Value.int 0 0, Value.int 0 0, Value.int 0 0, Value.ref 25, Value.bool Bool.false, Value.int 181 0, Value.ref 26, Value.none, Value.none, Value.none, Value.none, Value.int 201 0, Value.int 5 0, Value.str (tx "/claim/cut.py") 202] }
noncomputable def ob_28_1 (P : Params) : Obj := { cls := Value.type "frame", slots := #[some (Value.ref 27), some (Value.ref 3), some (Value.ref 24), none, some (Value.str (tx "postkeep.errors") 194), none, some (Value.ref 0)] }
noncomputable def ob_31_1 (P : Params) : Obj := { cls := Value.none, data := Data.fields #[] }
noncomputable def ob_34_1 (P : Params) : Obj := Obj.mk (Value.none) (none) (Data.func (FuncData.mk (tx "__init__") (tx "PostError.__init__") (fob P 13).params (fob P 13).body (fob P 13).scope 0 ([]) (Value.none) (Value.none) (Value.none) (Value.none) (none) (Value.none) (Value.none) 0)) (#[])
noncomputable def ob_38_1 (P : Params) : Obj := { cls := Value.none, data := Data.fields #[] }
noncomputable def ob_41_1 (P : Params) : Obj := Obj.mk (Value.none) (none) (Data.func (FuncData.mk (tx "told") (tx "PostError.told") (fob P 18).params (fob P 18).body (fob P 18).scope 0 ([]) (Value.none) (Value.none) (Value.none) (Value.none) (none) (Value.none) (Value.none) 0)) (#[])
noncomputable def ob_48_1 (P : Params) : Obj := { cls := Value.type "super", data := Data.fields #[Value.ref 46, Value.ref 46, Value.ref 46] }
noncomputable def ob_49_1 (P : Params) : Obj := { cls := Value.type "builtin_function_or_method", data := Data.fields #[Value.builtin "object.__init_subclass__", Value.ref 46] }
noncomputable def ob_51_1 (P : Params) : Obj := { cls := Value.type "builtin_function_or_method", data := Data.fields #[Value.builtin "type.__prepare__", Value.type "type"] }
noncomputable def ob_52_1 (P : Params) : Obj := { cls := Value.type "dict", data := Data.dict #[{ hash := kh P (tx "__module__"), key := Value.str (tx "__module__") 243, val := Value.str (tx "postkeep.errors") 194 }, { hash := kh P (tx "__qualname__"), key := Value.str (tx "__qualname__") 245, val := Value.str (tx "WordFault") 244 }, { hash := kh P (tx "__firstlineno__"), key := Value.str (tx "__firstlineno__") 247, val := Value.int 14 246 }, { hash := kh P (tx "__static_attributes__"), key := Value.str (tx "__static_attributes__") 248, val := Value.ref 57 }] 4 }
noncomputable def ob_53_1 (P : Params) : Obj := { cls := Value.type "tuple", data := Data.seq #[] }
noncomputable def ob_54_1 (P : Params) : Obj := { cls := Value.none, data := Data.fields #[] }
noncomputable def ob_55_1 (P : Params) : Obj := { cls := Value.type "code", data := Data.fields #[Value.str (tx "WordFault") 238, Value.str (tx "WordFault") 239, Value.str (tx "/claim/cut.py") 240, Value.int 14 0, Value.int 0 0, Value.int 0 0, Value.int 0 0, Value.int 0 0, Value.ref 53, Value.bool Bool.false, Value.int 181 0, Value.ref 54, Value.none, Value.none, Value.none, Value.none, Value.int 241 0, Value.int 14 0, Value.str (tx "/claim/cut.py") 242] }
noncomputable def ob_56_1 (P : Params) : Obj := { cls := Value.type "frame", slots := #[some (Value.ref 55), some (Value.ref 3), some (Value.ref 52), none, some (Value.str (tx "postkeep.errors") 194), none, some (Value.ref 0)] }
noncomputable def ob_60_1 (P : Params) : Obj := { cls := Value.type "super", data := Data.fields #[Value.ref 59, Value.ref 59, Value.ref 59] }
noncomputable def ob_61_1 (P : Params) : Obj := { cls := Value.type "builtin_function_or_method", data := Data.fields #[Value.builtin "object.__init_subclass__", Value.ref 59] }
noncomputable def ob_63_1 (P : Params) : Obj := { cls := Value.type "builtin_function_or_method", data := Data.fields #[Value.builtin "type.__prepare__", Value.type "type"] }
noncomputable def ob_64_1 (P : Params) : Obj := { cls := Value.type "dict", data := Data.dict #[{ hash := kh P (tx "__module__"), key := Value.str (tx "__module__") 259, val := Value.str (tx "postkeep.errors") 194 }, { hash := kh P (tx "__qualname__"), key := Value.str (tx "__qualname__") 261, val := Value.str (tx "WireFault") 260 }, { hash := kh P (tx "__firstlineno__"), key := Value.str (tx "__firstlineno__") 263, val := Value.int 16 262 }, { hash := kh P (tx "__static_attributes__"), key := Value.str (tx "__static_attributes__") 264, val := Value.ref 69 }] 4 }
noncomputable def ob_65_1 (P : Params) : Obj := { cls := Value.type "tuple", data := Data.seq #[] }
noncomputable def ob_66_1 (P : Params) : Obj := { cls := Value.none, data := Data.fields #[] }
noncomputable def ob_67_1 (P : Params) : Obj := { cls := Value.type "code", data := Data.fields #[Value.str (tx "WireFault") 254, Value.str (tx "WireFault") 255, Value.str (tx "/claim/cut.py") 256, Value.int 16 0, Value.int 0 0, Value.int 0 0, Value.int 0 0, Value.int 0 0, Value.ref 65, Value.bool Bool.false, Value.int 181 0, Value.ref 66, Value.none, Value.none, Value.none, Value.none, Value.int 257 0, Value.int 16 0, Value.str (tx "/claim/cut.py") 258] }
noncomputable def ob_68_1 (P : Params) : Obj := { cls := Value.type "frame", slots := #[some (Value.ref 67), some (Value.ref 3), some (Value.ref 64), none, some (Value.str (tx "postkeep.errors") 194), none, some (Value.ref 0)] }
noncomputable def ob_72_1 (P : Params) : Obj := { cls := Value.type "super", data := Data.fields #[Value.ref 71, Value.ref 71, Value.ref 71] }
noncomputable def ob_73_1 (P : Params) : Obj := { cls := Value.type "builtin_function_or_method", data := Data.fields #[Value.builtin "object.__init_subclass__", Value.ref 71] }
noncomputable def ob_75_1 (P : Params) : Obj := { cls := Value.type "builtin_function_or_method", data := Data.fields #[Value.builtin "type.__prepare__", Value.type "type"] }
noncomputable def ob_76_1 (P : Params) : Obj := { cls := Value.type "dict", data := Data.dict #[{ hash := kh P (tx "__module__"), key := Value.str (tx "__module__") 275, val := Value.str (tx "postkeep.errors") 194 }, { hash := kh P (tx "__qualname__"), key := Value.str (tx "__qualname__") 277, val := Value.str (tx "QueryFault") 276 }, { hash := kh P (tx "__firstlineno__"), key := Value.str (tx "__firstlineno__") 279, val := Value.int 18 278 }, { hash := kh P (tx "__static_attributes__"), key := Value.str (tx "__static_attributes__") 280, val := Value.ref 81 }] 4 }
noncomputable def ob_77_1 (P : Params) : Obj := { cls := Value.type "tuple", data := Data.seq #[] }
noncomputable def ob_78_1 (P : Params) : Obj := { cls := Value.none, data := Data.fields #[] }
noncomputable def ob_79_1 (P : Params) : Obj := { cls := Value.type "code", data := Data.fields #[Value.str (tx "QueryFault") 270, Value.str (tx "QueryFault") 271, Value.str (tx "/claim/cut.py") 272, Value.int 18 0, Value.int 0 0, Value.int 0 0, Value.int 0 0, Value.int 0 0, Value.ref 77, Value.bool Bool.false, Value.int 181 0, Value.ref 78, Value.none, Value.none, Value.none, Value.none, Value.int 273 0, Value.int 18 0, Value.str (tx "/claim/cut.py") 274] }
noncomputable def ob_80_1 (P : Params) : Obj := { cls := Value.type "frame", slots := #[some (Value.ref 79), some (Value.ref 3), some (Value.ref 76), none, some (Value.str (tx "postkeep.errors") 194), none, some (Value.ref 0)] }
noncomputable def ob_84_1 (P : Params) : Obj := { cls := Value.type "super", data := Data.fields #[Value.ref 83, Value.ref 83, Value.ref 83] }
noncomputable def ob_85_1 (P : Params) : Obj := { cls := Value.type "builtin_function_or_method", data := Data.fields #[Value.builtin "object.__init_subclass__", Value.ref 83] }
noncomputable def ob_87_1 (P : Params) : Obj := { cls := Value.none, data := Data.fields #[] }
noncomputable def ob_90_1 (P : Params) : Obj := Obj.mk (Value.none) (none) (Data.func (FuncData.mk (tx "lower_code") (tx "lower_code") (fob P 39).params (fob P 39).body (fob P 39).scope 0 ([]) (Value.none) (Value.none) (Value.none) (Value.none) (none) (Value.none) (Value.none) 0)) (#[])
noncomputable def ob_94_1 (P : Params) : Obj := { cls := Value.none, data := Data.fields #[] }
noncomputable def ob_95_1 (P : Params) : Obj := Obj.mk (Value.none) (none) (Data.func (FuncData.mk (tx "lower") (tx "lower") (fob P 42).params (fob P 42).body (fob P 42).scope 0 ([]) (Value.none) (Value.none) (Value.none) (Value.none) (none) (Value.none) (Value.none) 0)) (#[])
noncomputable def ob_99_1 (P : Params) : Obj := { cls := Value.none, data := Data.fields #[] }
noncomputable def ob_100_1 (P : Params) : Obj := Obj.mk (Value.none) (none) (Data.func (FuncData.mk (tx "lower_text") (tx "lower_text") (fob P 45).params (fob P 45).body (fob P 45).scope 0 ([]) (Value.none) (Value.none) (Value.none) (Value.none) (none) (Value.none) (Value.none) 0)) (#[])
noncomputable def ob_104_1 (P : Params) : Obj := { cls := Value.none, data := Data.fields #[] }
noncomputable def ob_105_1 (P : Params) : Obj := Obj.mk (Value.none) (none) (Data.func (FuncData.mk (tx "upper_text") (tx "upper_text") (fob P 48).params (fob P 48).body (fob P 48).scope 0 ([]) (Value.none) (Value.none) (Value.none) (Value.none) (none) (Value.none) (Value.none) 0)) (#[])
noncomputable def ob_109_1 (P : Params) : Obj := { cls := Value.none, data := Data.fields #[] }
noncomputable def ob_110_1 (P : Params) : Obj := Obj.mk (Value.none) (none) (Data.func (FuncData.mk (tx "ascii_text") (tx "ascii_text") (fob P 51).params (fob P 51).body (fob P 51).scope 0 ([]) (Value.none) (Value.none) (Value.none) (Value.none) (none) (Value.none) (Value.none) 0)) (#[])
noncomputable def ob_114_1 (P : Params) : Obj := { cls := Value.none, data := Data.fields #[] }
noncomputable def ob_117_1 (P : Params) : Obj := Obj.mk (Value.none) (none) (Data.func (FuncData.mk (tx "word_here") (tx "word_here") (fob P 56).params (fob P 56).body (fob P 56).scope 0 ([]) (Value.none) (Value.none) (Value.none) (Value.none) (none) (Value.none) (Value.none) 0)) (#[])
noncomputable def ob_121_1 (P : Params) : Obj := { cls := Value.none, data := Data.fields #[] }
noncomputable def ob_124_1 (P : Params) : Obj := Obj.mk (Value.none) (none) (Data.func (FuncData.mk (tx "modseq_here") (tx "modseq_here") (fob P 61).params (fob P 61).body (fob P 61).scope 0 ([]) (Value.none) (Value.none) (Value.none) (Value.none) (none) (Value.none) (Value.none) 0)) (#[])
noncomputable def ob_127_1 (P : Params) : Obj := { cls := Value.type "tuple", data := Data.seq #[] }
noncomputable def ob_128_1 (P : Params) : Obj := { cls := Value.type "builtin_function_or_method", data := Data.fields #[Value.builtin "type.__prepare__", Value.type "type"] }
noncomputable def ob_129_1 (P : Params) : Obj := { cls := Value.type "dict", data := Data.dict #[{ hash := kh P (tx "__module__"), key := Value.str (tx "__module__") 362, val := Value.str (tx "postkeep.wire") 339 }, { hash := kh P (tx "__qualname__"), key := Value.str (tx "__qualname__") 364, val := Value.str (tx "Atom") 363 }, { hash := kh P (tx "__firstlineno__"), key := Value.str (tx "__firstlineno__") 366, val := Value.int 61 365 }, { hash := kh P (tx "__init__"), key := Value.str (tx "__init__") 374, val := Value.ref 140 }, { hash := kh P (tx "told"), key := Value.str (tx "told") 381, val := Value.ref 147 }, { hash := kh P (tx "__static_attributes__"), key := Value.str (tx "__static_attributes__") 383, val := Value.ref 148 }] 6 }
noncomputable def ob_130_1 (P : Params) : Obj := { cls := Value.type "tuple", data := Data.seq #[] }
noncomputable def ob_131_1 (P : Params) : Obj := { cls := Value.none, data := Data.fields #[Value.int 63 0, Value.int 4 0, Value.ref 139, Value.int 66 0, Value.int 4 0, Value.ref 146] }
noncomputable def ob_132_1 (P : Params) : Obj := { cls := Value.type "code", data := Data.fields #[Value.str (tx "Atom") 357, Value.str (tx "Atom") 358, Value.str (tx "/claim/cut.py") 359, Value.int 61 0, Value.int 0 0, Value.int 0 0, Value.int 0 0, Value.int 0 0, Value.ref 130, Value.bool Bool.false, Value.int 181 0, Value.ref 131, Value.none, Value.none, Value.none, Value.none, Value.int 360 0, Value.int 61 0, Value.str (tx "/claim/cut.py") 361] }
noncomputable def ob_133_1 (P : Params) : Obj := { cls := Value.type "frame", slots := #[some (Value.ref 132), some (Value.ref 3), some (Value.ref 129), none, some (Value.str (tx "postkeep.wire") 339), none, some (Value.ref 0)] }
noncomputable def ob_135_1 (P : Params) : Obj := { cls := Value.none, data := Data.fields #[] }
noncomputable def ob_138_1 (P : Params) : Obj := Obj.mk (Value.none) (none) (Data.func (FuncData.mk (tx "__init__") (tx "Atom.__init__") (fob P 66).params (fob P 66).body (fob P 66).scope 0 ([]) (Value.none) (Value.none) (Value.none) (Value.none) (none) (Value.none) (Value.none) 0)) (#[])
noncomputable def ob_142_1 (P : Params) : Obj := { cls := Value.none, data := Data.fields #[] }
noncomputable def ob_145_1 (P : Params) : Obj := Obj.mk (Value.none) (none) (Data.func (FuncData.mk (tx "told") (tx "Atom.told") (fob P 71).params (fob P 71).body (fob P 71).scope 0 ([]) (Value.none) (Value.none) (Value.none) (Value.none) (none) (Value.none) (Value.none) 0)) (#[])
noncomputable def ob_153_1 (P : Params) : Obj := { cls := Value.type "super", data := Data.fields #[Value.ref 150, Value.ref 150, Value.ref 150] }
noncomputable def ob_154_1 (P : Params) : Obj := { cls := Value.type "builtin_function_or_method", data := Data.fields #[Value.builtin "object.__init_subclass__", Value.ref 150] }
noncomputable def ob_156_1 (P : Params) : Obj := { cls := Value.none, data := Data.fields #[] }
noncomputable def ob_159_1 (P : Params) : Obj := Obj.mk (Value.none) (none) (Data.func (FuncData.mk (tx "is_printable") (tx "is_printable") (fob P 81).params (fob P 81).body (fob P 81).scope 0 ([]) (Value.none) (Value.none) (Value.none) (Value.none) (none) (Value.none) (Value.none) 0)) (#[])
noncomputable def ob_163_1 (P : Params) : Obj := { cls := Value.none, data := Data.fields #[] }
noncomputable def ob_166_1 (P : Params) : Obj := Obj.mk (Value.none) (none) (Data.func (FuncData.mk (tx "is_atom_code") (tx "is_atom_code") (fob P 86).params (fob P 86).body (fob P 86).scope 0 ([]) (Value.none) (Value.none) (Value.none) (Value.none) (none) (Value.none) (Value.none) 0)) (#[])
noncomputable def ob_170_1 (P : Params) : Obj := { cls := Value.none, data := Data.fields #[] }
noncomputable def ob_173_1 (P : Params) : Obj := Obj.mk (Value.none) (none) (Data.func (FuncData.mk (tx "is_astring_code") (tx "is_astring_code") (fob P 91).params (fob P 91).body (fob P 91).scope 0 ([]) (Value.none) (Value.none) (Value.none) (Value.none) (none) (Value.none) (Value.none) 0)) (#[])
noncomputable def ob_177_1 (P : Params) : Obj := { cls := Value.none, data := Data.fields #[] }
noncomputable def ob_180_1 (P : Params) : Obj := Obj.mk (Value.none) (none) (Data.func (FuncData.mk (tx "is_value_code") (tx "is_value_code") (fob P 96).params (fob P 96).body (fob P 96).scope 0 ([]) (Value.none) (Value.none) (Value.none) (Value.none) (none) (Value.none) (Value.none) 0)) (#[])
noncomputable def ob_184_1 (P : Params) : Obj := { cls := Value.none, data := Data.fields #[] }
noncomputable def ob_187_1 (P : Params) : Obj := Obj.mk (Value.none) (none) (Data.func (FuncData.mk (tx "is_figure") (tx "is_figure") (fob P 101).params (fob P 101).body (fob P 101).scope 0 ([]) (Value.none) (Value.none) (Value.none) (Value.none) (none) (Value.none) (Value.none) 0)) (#[])
noncomputable def ob_191_1 (P : Params) : Obj := { cls := Value.none, data := Data.fields #[] }
noncomputable def ob_194_1 (P : Params) : Obj := Obj.mk (Value.none) (none) (Data.func (FuncData.mk (tx "number_of_figures") (tx "number_of_figures") (fob P 106).params (fob P 106).body (fob P 106).scope 0 ([]) (Value.none) (Value.none) (Value.none) (Value.none) (none) (Value.none) (Value.none) 0)) (#[])
noncomputable def tr_1 (P : Params) : BT := (.node (boot_o_0 P) (.node (boot_o_1 P) (.node (ob_3_1 P) (.node (boot_o_7 P) (.node (hob P 2) (.node (ob_31_1 P) (.node (ob_63_1 P) (.node (ob_127_1 P) .nil .nil) (.node (ob_191_1 P) .nil .nil)) (.node (ob_95_1 P) (.node (ob_159_1 P) .nil .nil) .nil)) (.node (hob P 22) (.node (ob_79_1 P) (.node (hob P 68) .nil .nil) .nil) (.node (hob P 50) (.node (hob P 91) .nil .nil) .nil))) (.node (ob_23_1 P) (.node (hob P 15) (.node (hob P 30) (.node (ob_135_1 P) .nil .nil) .nil) (.node (hob P 46) (.node (hob P 85) .nil .nil) .nil)) (.node (ob_55_1 P) (.node (ob_87_1 P) (.node (hob P 75) .nil .nil) .nil) (.node (hob P 56) (.node (hob P 97) .nil .nil) .nil)))) (.node (ob_11_0 P) (.node (ob_19_1 P) (.node (hob P 12) (.node (ob_67_1 P) (.node (ob_131_1 P) .nil .nil) (.node (hob P 105) .nil .nil)) (.node (ob_99_1 P) (.node (ob_163_1 P) .nil .nil) .nil)) (.node (ob_51_1 P) (.node (hob P 34) (.node (hob P 71) .nil .nil) .nil) (.node (hob P 53) (.node (hob P 94) .nil .nil) .nil))) (.node (ob_27_1 P) (.node (hob P 18) (.node (ob_75_1 P) (.node (hob P 65) .nil .nil) .nil) (.node (hob P 48) (.node (hob P 88) .nil .nil) .nil)) (.node (hob P 26) (.node (hob P 38) (.node (hob P 77) .nil .nil) .nil) (.node (hob P 59) (.node (ob_187_1 P) .nil .nil) .nil))))) (.node (boot_o_5 P) (.node (boot_o_9 P) (.node (hob P 3) (.node (hob P 11) (.node (ob_65_1 P) (.node (ob_129_1 P) .nil .nil) (.node (hob P 104) .nil .nil)) (.node (hob P 42) (.node (hob P 81) .nil .nil) .nil)) (.node (ob_49_1 P) (.node (hob P 32) (.node (ob_145_1 P) .nil .nil) .nil) (.node (hob P 52) (.node (ob_177_1 P) .nil .nil) .nil))) (.node (ob_25_1 P) (.node (ob_41_1 P) (.node (ob_73_1 P) (.node (hob P 64) .nil .nil) .nil) (.node (ob_105_1 P) (.node (hob P 87) .nil .nil) .nil)) (.node (hob P 24) (.node (hob P 37) (.node (ob_153_1 P) .nil .nil) .nil) (.node (ob_121_1 P) (.node (hob P 98) .nil .nil) .nil)))) (.node (ob_13_0 P) (.node (hob P 6) (.node (hob P 14) (.node (hob P 28) (.node (ob_133_1 P) .nil .nil) .nil) (.node (hob P 44) (.node (hob P 84) .nil .nil) .nil)) (.node (ob_53_1 P) (.node (ob_85_1 P) (.node (hob P 73) .nil .nil) .nil) (.node (ob_117_1 P) (.node (hob P 95) .nil .nil) .nil))) (.node (hob P 8) (.node (hob P 20) (.node (ob_77_1 P) (.node (hob P 67) .nil .nil) .nil) (.node (ob_109_1 P) (.node (ob_173_1 P) .nil .nil) .nil)) (.node (ob_61_1 P) (.node (hob P 40) (.node (hob P 78) .nil .nil) .nil) (.node (hob P 60) (.node (hob P 101) .nil .nil) .nil)))))) (.node (hob P 0) (.node (boot_o_4 P) (.node (boot_o_8 P) (.node (ob_16_1 P) (.node (hob P 10) (.node (ob_64_1 P) (.node (ob_128_1 P) .nil .nil) (.node (hob P 103) .nil .nil)) (.node (hob P 41) (.node (hob P 80) .nil .nil) .nil)) (.node (ob_48_1 P) (.node (ob_80_1 P) (.node (hob P 69) .nil .nil) .nil) (.node (hob P 51) (.node (hob P 92) .nil .nil) .nil))) (.node (ob_24_1 P) (.node (hob P 16) (.node (ob_72_1 P) (.node (hob P 63) .nil .nil) .nil) (.node (ob_104_1 P) (.node (hob P 86) .nil .nil) .nil)) (.node (ob_56_1 P) (.node (hob P 36) (.node (hob P 76) .nil .nil) .nil) (.node (hob P 57) (.node (ob_184_1 P) .nil .nil) .nil)))) (.node (ob_12_1 P) (.node (hob P 5) (.node (hob P 13) (.node (ob_68_1 P) (.node (ob_132_1 P) .nil .nil) (.node (hob P 106) .nil .nil)) (.node (ob_100_1 P) (.node (hob P 83) .nil .nil) .nil)) (.node (ob_52_1 P) (.node (ob_84_1 P) (.node (hob P 72) .nil .nil) .nil) (.node (hob P 54) (.node (ob_180_1 P) .nil .nil) .nil))) (.node (ob_28_1 P) (.node (hob P 19) (.node (ob_76_1 P) (.node (hob P 66) .nil .nil) .nil) (.node (hob P 49) (.node (hob P 89) .nil .nil) .nil)) (.node (ob_60_1 P) (.node (hob P 39) (.node (ob_156_1 P) .nil .nil) .nil) (.node (ob_124_1 P) (.node (hob P 100) .nil .nil) .nil))))) (.node (boot_o_6 P) (.node (boot_o_10 P) (.node (hob P 4) (.node (ob_34_1 P) (.node (ob_66_1 P) (.node (ob_130_1 P) .nil .nil) (.node (ob_194_1 P) .nil .nil)) (.node (hob P 43) (.node (hob P 82) .nil .nil) .nil)) (.node (hob P 23) (.node (hob P 33) (.node (hob P 70) .nil .nil) .nil) (.node (ob_114_1 P) (.node (hob P 93) .nil .nil) .nil))) (.node (ob_26_1 P) (.node (hob P 17) (.node (hob P 31) (.node (ob_138_1 P) .nil .nil) .nil) (.node (hob P 47) (.node (ob_170_1 P) .nil .nil) .nil)) (.node (hob P 25) (.node (ob_90_1 P) (.node (ob_154_1 P) .nil .nil) .nil) (.node (hob P 58) (.node (hob P 99) .nil .nil) .nil)))) (.node (ob_14_0 P) (.node (hob P 7) (.node (ob_38_1 P) (.node (hob P 29) (.node (hob P 62) .nil .nil) .nil) (.node (hob P 45) (.node (ob_166_1 P) .nil .nil) .nil)) (.node (ob_54_1 P) (.node (hob P 35) (.node (hob P 74) .nil .nil) .nil) (.node (hob P 55) (.node (hob P 96) .nil .nil) .nil))) (.node (hob P 9) (.node (hob P 21) (.node (ob_78_1 P) (.node (ob_142_1 P) .nil .nil) .nil) (.node (ob_110_1 P) (.node (hob P 90) .nil .nil) .nil)) (.node (hob P 27) (.node (ob_94_1 P) (.node (hob P 79) .nil .nil) .nil) (.node (hob P 61) (.node (hob P 102) .nil .nil) .nil)))))))
noncomputable def st_1 (w : World) (os : OsState) : SharedT := ⟨tr_1 w.params, 197, { }, Array.mk [], { }, 435, os⟩
abbrev ps_1 : Pos := { line := 78, col := 0, endLine := 82, endCol := 17 }
noncomputable def ob_12_2 (P : Params) : Obj := { cls := Value.none, data := Data.fields #[Value.int 1 0, Value.int 0 0, Value.ref 20, Value.int 5 0, Value.int 0 0, Value.ref 27, Value.int 14 0, Value.int 0 0, Value.ref 55, Value.int 16 0, Value.int 0 0, Value.ref 67, Value.int 18 0, Value.int 0 0, Value.ref 79, Value.int 22 0, Value.int 0 0, Value.ref 91, Value.int 24 0, Value.int 0 0, Value.ref 96, Value.int 26 0, Value.int 0 0, Value.ref 101, Value.int 28 0, Value.int 0 0, Value.ref 106, Value.int 30 0, Value.int 0 0, Value.ref 111, Value.int 37 0, Value.int 0 0, Value.ref 118, Value.int 44 0, Value.int 0 0, Value.ref 125, Value.int 61 0, Value.int 0 0, Value.ref 132, Value.int 68 0, Value.int 0 0, Value.ref 160, Value.int 70 0, Value.int 0 0, Value.ref 167, Value.int 72 0, Value.int 0 0, Value.ref 174, Value.int 74 0, Value.int 0 0, Value.ref 181, Value.int 76 0, Value.int 0 0, Value.ref 188, Value.int 78 0, Value.int 0 0, Value.ref 195, Value.int 83 0, Value.int 0 0, Value.ref 202, Value.int 228 0, Value.int 0 0, Value.ref 393, Value.int 230 0, Value.int 0 0, Value.ref 400, Value.int 232 0, Value.int 0 0, Value.ref 405] }
noncomputable def ob_197_2 (P : Params) : Obj := { cls := Value.type "tuple", data := Data.seq #[] }
noncomputable def ob_198_2 (P : Params) : Obj := { cls := Value.type "builtin_function_or_method", data := Data.fields #[Value.builtin "type.__prepare__", Value.type "type"] }
noncomputable def ob_199_2 (P : Params) : Obj := { cls := Value.type "dict", data := Data.dict #[{ hash := kh P (tx "__module__"), key := Value.str (tx "__module__") 442, val := Value.str (tx "postkeep.wire") 339 }, { hash := kh P (tx "__qualname__"), key := Value.str (tx "__qualname__") 444, val := Value.str (tx "Wire") 443 }, { hash := kh P (tx "__firstlineno__"), key := Value.str (tx "__firstlineno__") 446, val := Value.int 83 445 }, { hash := kh P (tx "__init__"), key := Value.str (tx "__init__") 456, val := Value.ref 211 }, { hash := kh P (tx "fault"), key := Value.str (tx "fault") 464, val := Value.ref 218 }, { hash := kh P (tx "peek"), key := Value.str (tx "peek") 471, val := Value.ref 225 }, { hash := kh P (tx "skip"), key := Value.str (tx "skip") 479, val := Value.ref 232 }, { hash := kh P (tx "need"), key := Value.str (tx "need") 488, val := Value.ref 239 }, { hash := kh P (tx "space"), key := Value.str (tx "space") 495, val := Value.ref 246 }, { hash := kh P (tx "done"), key := Value.str (tx "done") 502, val := Value.ref 253 }, { hash := kh P (tx "run"), key := Value.str (tx "run") 511, val := Value.ref 260 }, { hash := kh P (tx "word_of"), key := Value.str (tx "word_of") 521, val := Value.ref 267 }, { hash := kh P (tx "atom"), key := Value.str (tx "atom") 528, val := Value.ref 274 }, { hash := kh P (tx "word"), key := Value.str (tx "word") 535, val := Value.ref 281 }, { hash := kh P (tx "skip_word"), key := Value.str (tx "skip_word") 543, val := Value.ref 288 }, { hash := kh P (tx "set_text"), key := Value.str (tx "set_text") 550, val := Value.ref 295 }, { hash := kh P (tx "flag"), key := Value.str (tx "flag") 558, val := Value.ref 302 }, { hash := kh P (tx "number"), key := Value.str (tx "number") 567, val := Value.ref 309 }, { hash := kh P (tx "quoted"), key := Value.str (tx "quoted") 575, val := Value.ref 316 }, { hash := kh P (tx "literal"), key := Value.str (tx "literal") 585, val := Value.ref 323 }, { hash := kh P (tx "string"), key := Value.str (tx "string") 592, val := Value.ref 330 }, { hash := kh P (tx "string_or"), key := Value.str (tx "string_or") 601, val := Value.ref 337 }, { hash := kh P (tx "astring"), key := Value.str (tx "astring") 608, val := Value.ref 344 }, { hash := kh P (tx "pattern"), key := Value.str (tx "pattern") 615, val := Value.ref 351 }, { hash := kh P (tx "nstring"), key := Value.str (tx "nstring") 622, val := Value.ref 358 }, { hash := kh P (tx "list_of"), key := Value.str (tx "list_of") 630, val := Value.ref 365 }, { hash := kh P (tx "plain_value"), key := Value.str (tx "plain_value") 636, val := Value.ref 370 }, { hash := kh P (tx "value"), key := Value.str (tx "value") 646, val := Value.ref 378 }, { hash := kh P (tx "__static_attributes__"), key := Value.str (tx "__static_attributes__") 649, val := Value.ref 379 }] 29 }
noncomputable def ob_200_2 (P : Params) : Obj := { cls := Value.type "tuple", data := Data.seq #[] }
noncomputable def ob_201_2 (P : Params) : Obj := { cls := Value.none, data := Data.fields #[Value.int 85 0, Value.int 4 0, Value.ref 210, Value.int 89 0, Value.int 4 0, Value.ref 217, Value.int 92 0, Value.int 4 0, Value.ref 224, Value.int 95 0, Value.int 4 0, Value.ref 231, Value.int 101 0, Value.int 4 0, Value.ref 238, Value.int 105 0, Value.int 4 0, Value.ref 245, Value.int 108 0, Value.int 4 0, Value.ref 252, Value.int 111 0, Value.int 4 0, Value.ref 259, Value.int 117 0, Value.int 4 0, Value.ref 266, Value.int 123 0, Value.int 4 0, Value.ref 273, Value.int 126 0, Value.int 4 0, Value.ref 280, Value.int 129 0, Value.int 4 0, Value.ref 287, Value.int 132 0, Value.int 4 0, Value.ref 294, Value.int 135 0, Value.int 4 0, Value.ref 301, Value.int 139 0, Value.int 4 0, Value.ref 308, Value.int 146 0, Value.int 4 0, Value.ref 315, Value.int 161 0, Value.int 4 0, Value.ref 322, Value.int 175 0, Value.int 4 0, Value.ref 329, Value.int 178 0, Value.int 4 0, Value.ref 336, Value.int 186 0, Value.int 4 0, Value.ref 343, Value.int 189 0, Value.int 4 0, Value.ref 350, Value.int 192 0, Value.int 4 0, Value.ref 357, Value.int 195 0, Value.int 4 0, Value.ref 364, Value.int 198 0, Value.int 4 0, Value.ref 369, Value.int 211 0, Value.int 4 0, Value.ref 377] }
noncomputable def ob_202_2 (P : Params) : Obj := { cls := Value.type "code", data := Data.fields #[Value.str (tx "Wire") 437, Value.str (tx "Wire") 438, Value.str (tx "/claim/cut.py") 439, Value.int 83 0, Value.int 0 0, Value.int 0 0, Value.int 0 0, Value.int 0 0, Value.ref 200, Value.bool Bool.false, Value.int 181 0, Value.ref 201, Value.none, Value.none, Value.none, Value.none, Value.int 440 0, Value.int 83 0, Value.str (tx "/claim/cut.py") 441] }
noncomputable def ob_203_2 (P : Params) : Obj := { cls := Value.type "frame", slots := #[some (Value.ref 202), some (Value.ref 3), some (Value.ref 199), none, some (Value.str (tx "postkeep.wire") 339), none, some (Value.ref 0)] }
noncomputable def ob_206_2 (P : Params) : Obj := { cls := Value.none, data := Data.fields #[] }
noncomputable def ob_209_2 (P : Params) : Obj := Obj.mk (Value.none) (none) (Data.func (FuncData.mk (tx "__init__") (tx "Wire.__init__") (fob P 112).params (fob P 112).body (fob P 112).scope 0 ([]) (Value.none) (Value.none) (Value.none) (Value.none) (none) (Value.none) (Value.none) 0)) (#[])
noncomputable def ob_213_2 (P : Params) : Obj := { cls := Value.none, data := Data.fields #[] }
noncomputable def ob_216_2 (P : Params) : Obj := Obj.mk (Value.none) (none) (Data.func (FuncData.mk (tx "fault") (tx "Wire.fault") (fob P 117).params (fob P 117).body (fob P 117).scope 0 ([]) (Value.none) (Value.none) (Value.none) (Value.none) (none) (Value.none) (Value.none) 0)) (#[])
noncomputable def ob_220_2 (P : Params) : Obj := { cls := Value.none, data := Data.fields #[] }
noncomputable def ob_223_2 (P : Params) : Obj := Obj.mk (Value.none) (none) (Data.func (FuncData.mk (tx "peek") (tx "Wire.peek") (fob P 122).params (fob P 122).body (fob P 122).scope 0 ([]) (Value.none) (Value.none) (Value.none) (Value.none) (none) (Value.none) (Value.none) 0)) (#[])
noncomputable def ob_227_2 (P : Params) : Obj := { cls := Value.none, data := Data.fields #[] }
noncomputable def ob_230_2 (P : Params) : Obj := Obj.mk (Value.none) (none) (Data.func (FuncData.mk (tx "skip") (tx "Wire.skip") (fob P 127).params (fob P 127).body (fob P 127).scope 0 ([]) (Value.none) (Value.none) (Value.none) (Value.none) (none) (Value.none) (Value.none) 0)) (#[])
noncomputable def ob_234_2 (P : Params) : Obj := { cls := Value.none, data := Data.fields #[] }
noncomputable def ob_237_2 (P : Params) : Obj := Obj.mk (Value.none) (none) (Data.func (FuncData.mk (tx "need") (tx "Wire.need") (fob P 132).params (fob P 132).body (fob P 132).scope 0 ([]) (Value.none) (Value.none) (Value.none) (Value.none) (none) (Value.none) (Value.none) 0)) (#[])
noncomputable def ob_241_2 (P : Params) : Obj := { cls := Value.none, data := Data.fields #[] }
noncomputable def ob_244_2 (P : Params) : Obj := Obj.mk (Value.none) (none) (Data.func (FuncData.mk (tx "space") (tx "Wire.space") (fob P 137).params (fob P 137).body (fob P 137).scope 0 ([]) (Value.none) (Value.none) (Value.none) (Value.none) (none) (Value.none) (Value.none) 0)) (#[])
noncomputable def ob_248_2 (P : Params) : Obj := { cls := Value.none, data := Data.fields #[] }
noncomputable def ob_251_2 (P : Params) : Obj := Obj.mk (Value.none) (none) (Data.func (FuncData.mk (tx "done") (tx "Wire.done") (fob P 142).params (fob P 142).body (fob P 142).scope 0 ([]) (Value.none) (Value.none) (Value.none) (Value.none) (none) (Value.none) (Value.none) 0)) (#[])
noncomputable def ob_255_2 (P : Params) : Obj := { cls := Value.none, data := Data.fields #[] }
noncomputable def ob_258_2 (P : Params) : Obj := Obj.mk (Value.none) (none) (Data.func (FuncData.mk (tx "run") (tx "Wire.run") (fob P 147).params (fob P 147).body (fob P 147).scope 0 ([]) (Value.none) (Value.none) (Value.none) (Value.none) (none) (Value.none) (Value.none) 0)) (#[])
noncomputable def ob_262_2 (P : Params) : Obj := { cls := Value.none, data := Data.fields #[] }
noncomputable def ob_265_2 (P : Params) : Obj := Obj.mk (Value.none) (none) (Data.func (FuncData.mk (tx "word_of") (tx "Wire.word_of") (fob P 152).params (fob P 152).body (fob P 152).scope 0 ([]) (Value.none) (Value.none) (Value.none) (Value.none) (none) (Value.none) (Value.none) 0)) (#[])
noncomputable def ob_269_2 (P : Params) : Obj := { cls := Value.none, data := Data.fields #[] }
noncomputable def ob_272_2 (P : Params) : Obj := Obj.mk (Value.none) (none) (Data.func (FuncData.mk (tx "atom") (tx "Wire.atom") (fob P 157).params (fob P 157).body (fob P 157).scope 0 ([]) (Value.none) (Value.none) (Value.none) (Value.none) (none) (Value.none) (Value.none) 0)) (#[])
noncomputable def ob_276_2 (P : Params) : Obj := { cls := Value.none, data := Data.fields #[] }
noncomputable def ob_279_2 (P : Params) : Obj := Obj.mk (Value.none) (none) (Data.func (FuncData.mk (tx "word") (tx "Wire.word") (fob P 162).params (fob P 162).body (fob P 162).scope 0 ([]) (Value.none) (Value.none) (Value.none) (Value.none) (none) (Value.none) (Value.none) 0)) (#[])
noncomputable def ob_283_2 (P : Params) : Obj := { cls := Value.none, data := Data.fields #[] }
noncomputable def ob_286_2 (P : Params) : Obj := Obj.mk (Value.none) (none) (Data.func (FuncData.mk (tx "skip_word") (tx "Wire.skip_word") (fob P 167).params (fob P 167).body (fob P 167).scope 0 ([]) (Value.none) (Value.none) (Value.none) (Value.none) (none) (Value.none) (Value.none) 0)) (#[])
noncomputable def ob_290_2 (P : Params) : Obj := { cls := Value.none, data := Data.fields #[] }
noncomputable def ob_293_2 (P : Params) : Obj := Obj.mk (Value.none) (none) (Data.func (FuncData.mk (tx "set_text") (tx "Wire.set_text") (fob P 172).params (fob P 172).body (fob P 172).scope 0 ([]) (Value.none) (Value.none) (Value.none) (Value.none) (none) (Value.none) (Value.none) 0)) (#[])
noncomputable def ob_297_2 (P : Params) : Obj := { cls := Value.none, data := Data.fields #[] }
noncomputable def ob_300_2 (P : Params) : Obj := Obj.mk (Value.none) (none) (Data.func (FuncData.mk (tx "flag") (tx "Wire.flag") (fob P 177).params (fob P 177).body (fob P 177).scope 0 ([]) (Value.none) (Value.none) (Value.none) (Value.none) (none) (Value.none) (Value.none) 0)) (#[])
noncomputable def ob_304_2 (P : Params) : Obj := { cls := Value.none, data := Data.fields #[] }
noncomputable def ob_307_2 (P : Params) : Obj := Obj.mk (Value.none) (none) (Data.func (FuncData.mk (tx "number") (tx "Wire.number") (fob P 182).params (fob P 182).body (fob P 182).scope 0 ([]) (Value.none) (Value.none) (Value.none) (Value.none) (none) (Value.none) (Value.none) 0)) (#[])
noncomputable def ob_311_2 (P : Params) : Obj := { cls := Value.none, data := Data.fields #[] }
noncomputable def ob_314_2 (P : Params) : Obj := Obj.mk (Value.none) (none) (Data.func (FuncData.mk (tx "quoted") (tx "Wire.quoted") (fob P 187).params (fob P 187).body (fob P 187).scope 0 ([]) (Value.none) (Value.none) (Value.none) (Value.none) (none) (Value.none) (Value.none) 0)) (#[])
noncomputable def ob_318_2 (P : Params) : Obj := { cls := Value.none, data := Data.fields #[] }
noncomputable def ob_321_2 (P : Params) : Obj := Obj.mk (Value.none) (none) (Data.func (FuncData.mk (tx "literal") (tx "Wire.literal") (fob P 192).params (fob P 192).body (fob P 192).scope 0 ([]) (Value.none) (Value.none) (Value.none) (Value.none) (none) (Value.none) (Value.none) 0)) (#[])
noncomputable def ob_325_2 (P : Params) : Obj := { cls := Value.none, data := Data.fields #[] }
noncomputable def ob_328_2 (P : Params) : Obj := Obj.mk (Value.none) (none) (Data.func (FuncData.mk (tx "string") (tx "Wire.string") (fob P 197).params (fob P 197).body (fob P 197).scope 0 ([]) (Value.none) (Value.none) (Value.none) (Value.none) (none) (Value.none) (Value.none) 0)) (#[])
noncomputable def ob_332_2 (P : Params) : Obj := { cls := Value.none, data := Data.fields #[] }
noncomputable def ob_335_2 (P : Params) : Obj := Obj.mk (Value.none) (none) (Data.func (FuncData.mk (tx "string_or") (tx "Wire.string_or") (fob P 202).params (fob P 202).body (fob P 202).scope 0 ([]) (Value.none) (Value.none) (Value.none) (Value.none) (none) (Value.none) (Value.none) 0)) (#[])
noncomputable def ob_339_2 (P : Params) : Obj := { cls := Value.none, data := Data.fields #[] }
noncomputable def ob_342_2 (P : Params) : Obj := Obj.mk (Value.none) (none) (Data.func (FuncData.mk (tx "astring") (tx "Wire.astring") (fob P 207).params (fob P 207).body (fob P 207).scope 0 ([]) (Value.none) (Value.none) (Value.none) (Value.none) (none) (Value.none) (Value.none) 0)) (#[])
noncomputable def ob_346_2 (P : Params) : Obj := { cls := Value.none, data := Data.fields #[] }
noncomputable def ob_349_2 (P : Params) : Obj := Obj.mk (Value.none) (none) (Data.func (FuncData.mk (tx "pattern") (tx "Wire.pattern") (fob P 212).params (fob P 212).body (fob P 212).scope 0 ([]) (Value.none) (Value.none) (Value.none) (Value.none) (none) (Value.none) (Value.none) 0)) (#[])
noncomputable def ob_353_2 (P : Params) : Obj := { cls := Value.none, data := Data.fields #[] }
noncomputable def ob_356_2 (P : Params) : Obj := Obj.mk (Value.none) (none) (Data.func (FuncData.mk (tx "nstring") (tx "Wire.nstring") (fob P 217).params (fob P 217).body (fob P 217).scope 0 ([]) (Value.none) (Value.none) (Value.none) (Value.none) (none) (Value.none) (Value.none) 0)) (#[])
noncomputable def ob_360_2 (P : Params) : Obj := { cls := Value.none, data := Data.fields #[] }
noncomputable def ob_363_2 (P : Params) : Obj := Obj.mk (Value.none) (none) (Data.func (FuncData.mk (tx "list_of") (tx "Wire.list_of") (fob P 222).params (fob P 222).body (fob P 222).scope 0 ([]) (Value.none) (Value.none) (Value.none) (Value.none) (none) (Value.none) (Value.none) 0)) (#[])
noncomputable def ob_367_2 (P : Params) : Obj := { cls := Value.none, data := Data.fields #[] }
noncomputable def ob_368_2 (P : Params) : Obj := Obj.mk (Value.none) (none) (Data.func (FuncData.mk (tx "plain_value") (tx "Wire.plain_value") (fob P 225).params (fob P 225).body (fob P 225).scope 0 ([]) (Value.none) (Value.none) (Value.none) (Value.none) (none) (Value.none) (Value.none) 0)) (#[])
noncomputable def ob_373_2 (P : Params) : Obj := { cls := Value.none, data := Data.fields #[] }
noncomputable def ob_376_2 (P : Params) : Obj := Obj.mk (Value.none) (none) (Data.func (FuncData.mk (tx "value") (tx "Wire.value") (fob P 231).params (fob P 231).body (fob P 231).scope 0 ([]) (Value.none) (Value.none) (Value.none) (Value.none) (none) (Value.none) (Value.none) 0)) (#[])
noncomputable def ob_384_2 (P : Params) : Obj := { cls := Value.type "super", data := Data.fields #[Value.ref 381, Value.ref 381, Value.ref 381] }
noncomputable def ob_385_2 (P : Params) : Obj := { cls := Value.type "builtin_function_or_method", data := Data.fields #[Value.builtin "object.__init_subclass__", Value.ref 381] }
noncomputable def ob_389_2 (P : Params) : Obj := { cls := Value.none, data := Data.fields #[] }
noncomputable def ob_392_2 (P : Params) : Obj := Obj.mk (Value.none) (none) (Data.func (FuncData.mk (tx "_law_next") (tx "_law_next") (fob P 243).params (fob P 243).body (fob P 243).scope 0 ([]) (Value.none) (Value.none) (Value.none) (Value.none) (none) (Value.none) (Value.none) 0)) (#[])
noncomputable def ob_396_2 (P : Params) : Obj := { cls := Value.none, data := Data.fields #[] }
noncomputable def ob_399_2 (P : Params) : Obj := Obj.mk (Value.none) (none) (Data.func (FuncData.mk (tx "_law_gap") (tx "_law_gap") (fob P 248).params (fob P 248).body (fob P 248).scope 0 ([]) (Value.none) (Value.none) (Value.none) (Value.none) (none) (Value.none) (Value.none) 0)) (#[])
noncomputable def ob_403_2 (P : Params) : Obj := { cls := Value.none, data := Data.fields #[] }
noncomputable def ob_404_2 (P : Params) : Obj := Obj.mk (Value.none) (none) (Data.func (FuncData.mk (tx "law") (tx "law") (fob P 251).params (fob P 251).body (fob P 251).scope 0 ([]) (Value.none) (Value.none) (Value.none) (Value.none) (none) (Value.none) (Value.none) 0)) (#[])
noncomputable def tr_2 (P : Params) : BT := (.node (boot_o_0 P) (.node (boot_o_1 P) (.node (hob P 1) (.node (boot_o_7 P) (.node (hob P 2) (.node (ob_31_1 P) (.node (ob_63_1 P) (.node (ob_127_1 P) (.node (ob_255_2 P) .nil .nil) (.node (hob P 236) .nil .nil)) (.node (ob_191_1 P) (.node (hob P 189) .nil .nil) .nil)) (.node (ob_95_1 P) (.node (ob_159_1 P) (.node (hob P 166) .nil .nil) .nil) (.node (ob_223_2 P) (.node (hob P 212) .nil .nil) .nil))) (.node (hob P 22) (.node (ob_79_1 P) (.node (hob P 68) (.node (hob P 155) .nil .nil) (.node (ob_399_2 P) .nil .nil)) (.node (hob P 109) (.node (ob_335_2 P) .nil .nil) .nil)) (.node (hob P 50) (.node (hob P 91) (.node (hob P 178) .nil .nil) .nil) (.node (hob P 132) (.node (ob_367_2 P) .nil .nil) .nil)))) (.node (ob_23_1 P) (.node (hob P 15) (.node (hob P 30) (.node (ob_135_1 P) (.node (hob P 149) .nil .nil) (.node (hob P 241) .nil .nil)) (.node (ob_199_2 P) (.node (hob P 195) .nil .nil) .nil)) (.node (hob P 46) (.node (hob P 85) (.node (hob P 172) .nil .nil) .nil) (.node (hob P 126) (.node (hob P 218) .nil .nil) .nil))) (.node (ob_55_1 P) (.node (ob_87_1 P) (.node (hob P 75) (.node (ob_279_2 P) .nil .nil) .nil) (.node (hob P 115) (.node (hob P 206) .nil .nil) .nil)) (.node (hob P 56) (.node (hob P 97) (.node (ob_311_2 P) .nil .nil) .nil) (.node (hob P 138) (.node (hob P 229) .nil .nil) .nil))))) (.node (ob_11_0 P) (.node (ob_19_1 P) (.node (hob P 12) (.node (ob_67_1 P) (.node (ob_131_1 P) (.node (hob P 146) .nil .nil) (.node (hob P 238) .nil .nil)) (.node (hob P 105) (.node (hob P 192) .nil .nil) .nil)) (.node (ob_99_1 P) (.node (ob_163_1 P) (.node (hob P 169) .nil .nil) .nil) (.node (ob_227_2 P) (.node (hob P 215) .nil .nil) .nil))) (.node (ob_51_1 P) (.node (hob P 34) (.node (hob P 71) (.node (hob P 158) .nil .nil) (.node (ob_403_2 P) .nil .nil)) (.node (hob P 112) (.node (ob_339_2 P) .nil .nil) .nil)) (.node (hob P 53) (.node (hob P 94) (.node (ob_307_2 P) .nil .nil) .nil) (.node (hob P 135) (.node (hob P 226) .nil .nil) .nil)))) (.node (ob_27_1 P) (.node (hob P 18) (.node (ob_75_1 P) (.node (hob P 65) (.node (hob P 152) .nil .nil) (.node (hob P 244) .nil .nil)) (.node (ob_203_2 P) (.node (hob P 198) .nil .nil) .nil)) (.node (hob P 48) (.node (hob P 88) (.node (hob P 175) .nil .nil) .nil) (.node (hob P 129) (.node (ob_363_2 P) .nil .nil) .nil))) (.node (hob P 26) (.node (hob P 38) (.node (hob P 77) (.node (ob_283_2 P) .nil .nil) .nil) (.node (hob P 118) (.node (hob P 209) .nil .nil) .nil)) (.node (hob P 59) (.node (ob_187_1 P) (.node (hob P 186) .nil .nil) .nil) (.node (ob_251_2 P) (.node (hob P 232) .nil .nil) .nil)))))) (.node (boot_o_5 P) (.node (boot_o_9 P) (.node (hob P 3) (.node (hob P 11) (.node (ob_65_1 P) (.node (ob_129_1 P) (.node (hob P 145) .nil .nil) (.node (ob_385_2 P) .nil .nil)) (.node (hob P 104) (.node (ob_321_2 P) .nil .nil) .nil)) (.node (hob P 42) (.node (hob P 81) (.node (hob P 168) .nil .nil) .nil) (.node (hob P 122) (.node (ob_353_2 P) .nil .nil) .nil))) (.node (ob_49_1 P) (.node (hob P 32) (.node (ob_145_1 P) (.node (hob P 156) .nil .nil) (.node (hob P 248) .nil .nil)) (.node (ob_209_2 P) (.node (hob P 202) .nil .nil) .nil)) (.node (hob P 52) (.node (ob_177_1 P) (.node (hob P 179) .nil .nil) .nil) (.node (ob_241_2 P) (.node (hob P 224) .nil .nil) .nil)))) (.node (ob_25_1 P) (.node (ob_41_1 P) (.node (ob_73_1 P) (.node (hob P 64) (.node (ob_265_2 P) .nil .nil) (.node (hob P 242) .nil .nil)) (.node (ob_201_2 P) (.node (hob P 196) .nil .nil) .nil)) (.node (ob_105_1 P) (.node (hob P 87) (.node (ob_297_2 P) .nil .nil) .nil) (.node (hob P 128) (.node (hob P 219) .nil .nil) .nil))) (.node (hob P 24) (.node (hob P 37) (.node (ob_153_1 P) (.node (hob P 162) .nil .nil) .nil) (.node (hob P 116) (.node (hob P 208) .nil .nil) .nil)) (.node (ob_121_1 P) (.node (hob P 98) (.node (hob P 185) .nil .nil) .nil) (.node (hob P 139) (.node (hob P 230) .nil .nil) .nil))))) (.node (ob_13_0 P) (.node (hob P 6) (.node (hob P 14) (.node (hob P 28) (.node (ob_133_1 P) (.node (hob P 148) .nil .nil) (.node (ob_389_2 P) .nil .nil)) (.node (ob_197_2 P) (.node (ob_325_2 P) .nil .nil) .nil)) (.node (hob P 44) (.node (hob P 84) (.node (ob_293_2 P) .nil .nil) .nil) (.node (hob P 125) (.node (hob P 216) .nil .nil) .nil))) (.node (ob_53_1 P) (.node (ob_85_1 P) (.node (hob P 73) (.node (hob P 159) .nil .nil) (.node (hob P 250) .nil .nil)) (.node (ob_213_2 P) (.node (hob P 205) .nil .nil) .nil)) (.node (ob_117_1 P) (.node (hob P 95) (.node (hob P 182) .nil .nil) .nil) (.node (hob P 136) (.node (ob_373_2 P) .nil .nil) .nil)))) (.node (hob P 8) (.node (hob P 20) (.node (ob_77_1 P) (.node (hob P 67) (.node (ob_269_2 P) .nil .nil) (.node (hob P 245) .nil .nil)) (.node (hob P 108) (.node (hob P 199) .nil .nil) .nil)) (.node (ob_109_1 P) (.node (ob_173_1 P) (.node (hob P 176) .nil .nil) .nil) (.node (ob_237_2 P) (.node (hob P 222) .nil .nil) .nil))) (.node (ob_61_1 P) (.node (hob P 40) (.node (hob P 78) (.node (hob P 165) .nil .nil) .nil) (.node (hob P 119) (.node (ob_349_2 P) .nil .nil) .nil)) (.node (hob P 60) (.node (hob P 101) (.node (hob P 188) .nil .nil) .nil) (.node (hob P 142) (.node (hob P 234) .nil .nil) .nil))))))) (.node (hob P 0) (.node (boot_o_4 P) (.node (boot_o_8 P) (.node (ob_16_1 P) (.node (hob P 10) (.node (ob_64_1 P) (.node (ob_128_1 P) (.node (hob P 144) .nil .nil) (.node (ob_384_2 P) .nil .nil)) (.node (hob P 103) (.node (hob P 190) .nil .nil) .nil)) (.node (hob P 41) (.node (hob P 80) (.node (hob P 167) .nil .nil) .nil) (.node (hob P 121) (.node (hob P 213) .nil .nil) .nil))) (.node (ob_48_1 P) (.node (ob_80_1 P) (.node (hob P 69) (.node (ob_272_2 P) .nil .nil) (.node (hob P 247) .nil .nil)) (.node (hob P 110) (.node (hob P 201) .nil .nil) .nil)) (.node (hob P 51) (.node (hob P 92) (.node (ob_304_2 P) .nil .nil) .nil) (.node (hob P 133) (.node (ob_368_2 P) .nil .nil) .nil)))) (.node (ob_24_1 P) (.node (hob P 16) (.node (ob_72_1 P) (.node (hob P 63) (.node (hob P 150) .nil .nil) (.node (ob_392_2 P) .nil .nil)) (.node (ob_200_2 P) (.node (ob_328_2 P) .nil .nil) .nil)) (.node (ob_104_1 P) (.node (hob P 86) (.node (hob P 173) .nil .nil) .nil) (.node (hob P 127) (.node (ob_360_2 P) .nil .nil) .nil))) (.node (ob_56_1 P) (.node (hob P 36) (.node (hob P 76) (.node (hob P 161) .nil .nil) .nil) (.node (ob_216_2 P) (.node (hob P 207) .nil .nil) .nil)) (.node (hob P 57) (.node (ob_184_1 P) (.node (hob P 184) .nil .nil) .nil) (.node (ob_248_2 P) (.node (ob_376_2 P) .nil .nil) .nil))))) (.node (ob_12_2 P) (.node (hob P 5) (.node (hob P 13) (.node (ob_68_1 P) (.node (ob_132_1 P) (.node (hob P 147) .nil .nil) (.node (hob P 239) .nil .nil)) (.node (hob P 106) (.node (hob P 193) .nil .nil) .nil)) (.node (ob_100_1 P) (.node (hob P 83) (.node (hob P 170) .nil .nil) .nil) (.node (hob P 124) (.node (ob_356_2 P) .nil .nil) .nil))) (.node (ob_52_1 P) (.node (ob_84_1 P) (.node (hob P 72) (.node (ob_276_2 P) .nil .nil) (.node (ob_404_2 P) .nil .nil)) (.node (hob P 113) (.node (hob P 204) .nil .nil) .nil)) (.node (hob P 54) (.node (ob_180_1 P) (.node (hob P 181) .nil .nil) .nil) (.node (ob_244_2 P) (.node (hob P 227) .nil .nil) .nil)))) (.node (ob_28_1 P) (.node (hob P 19) (.node (ob_76_1 P) (.node (hob P 66) (.node (hob P 153) .nil .nil) (.node (ob_396_2 P) .nil .nil)) (.node (hob P 107) (.node (ob_332_2 P) .nil .nil) .nil)) (.node (hob P 49) (.node (hob P 89) (.node (ob_300_2 P) .nil .nil) .nil) (.node (hob P 130) (.node (hob P 221) .nil .nil) .nil))) (.node (ob_60_1 P) (.node (hob P 39) (.node (ob_156_1 P) (.node (hob P 164) .nil .nil) .nil) (.node (ob_220_2 P) (.node (hob P 210) .nil .nil) .nil)) (.node (ob_124_1 P) (.node (hob P 100) (.node (hob P 187) .nil .nil) .nil) (.node (hob P 141) (.node (hob P 233) .nil .nil) .nil)))))) (.node (boot_o_6 P) (.node (boot_o_10 P) (.node (hob P 4) (.node (ob_34_1 P) (.node (ob_66_1 P) (.node (ob_130_1 P) (.node (ob_258_2 P) .nil .nil) (.node (hob P 237) .nil .nil)) (.node (ob_194_1 P) (.node (hob P 191) .nil .nil) .nil)) (.node (hob P 43) (.node (hob P 82) (.node (ob_290_2 P) .nil .nil) .nil) (.node (hob P 123) (.node (hob P 214) .nil .nil) .nil))) (.node (hob P 23) (.node (hob P 33) (.node (hob P 70) (.node (hob P 157) .nil .nil) (.node (hob P 249) .nil .nil)) (.node (hob P 111) (.node (hob P 203) .nil .nil) .nil)) (.node (ob_114_1 P) (.node (hob P 93) (.node (hob P 180) .nil .nil) .nil) (.node (hob P 134) (.node (hob P 225) .nil .nil) .nil)))) (.node (ob_26_1 P) (.node (hob P 17) (.node (hob P 31) (.node (ob_138_1 P) (.node (hob P 151) .nil .nil) (.node (hob P 243) .nil .nil)) (.node (ob_202_2 P) (.node (hob P 197) .nil .nil) .nil)) (.node (hob P 47) (.node (ob_170_1 P) (.node (hob P 174) .nil .nil) .nil) (.node (ob_234_2 P) (.node (hob P 220) .nil .nil) .nil))) (.node (hob P 25) (.node (ob_90_1 P) (.node (ob_154_1 P) (.node (hob P 163) .nil .nil) .nil) (.node (hob P 117) (.node (ob_346_2 P) .nil .nil) .nil)) (.node (hob P 58) (.node (hob P 99) (.node (ob_314_2 P) .nil .nil) .nil) (.node (hob P 140) (.node (hob P 231) .nil .nil) .nil))))) (.node (ob_14_0 P) (.node (hob P 7) (.node (ob_38_1 P) (.node (hob P 29) (.node (hob P 62) (.node (ob_262_2 P) .nil .nil) (.node (hob P 240) .nil .nil)) (.node (ob_198_2 P) (.node (hob P 194) .nil .nil) .nil)) (.node (hob P 45) (.node (ob_166_1 P) (.node (hob P 171) .nil .nil) .nil) (.node (ob_230_2 P) (.node (hob P 217) .nil .nil) .nil))) (.node (ob_54_1 P) (.node (hob P 35) (.node (hob P 74) (.node (hob P 160) .nil .nil) (.node (hob P 251) .nil .nil)) (.node (hob P 114) (.node (ob_342_2 P) .nil .nil) .nil)) (.node (hob P 55) (.node (hob P 96) (.node (hob P 183) .nil .nil) .nil) (.node (hob P 137) (.node (hob P 228) .nil .nil) .nil)))) (.node (hob P 9) (.node (hob P 21) (.node (ob_78_1 P) (.node (ob_142_1 P) (.node (hob P 154) .nil .nil) (.node (hob P 246) .nil .nil)) (.node (ob_206_2 P) (.node (hob P 200) .nil .nil) .nil)) (.node (ob_110_1 P) (.node (hob P 90) (.node (hob P 177) .nil .nil) .nil) (.node (hob P 131) (.node (hob P 223) .nil .nil) .nil))) (.node (hob P 27) (.node (ob_94_1 P) (.node (hob P 79) (.node (ob_286_2 P) .nil .nil) .nil) (.node (hob P 120) (.node (hob P 211) .nil .nil) .nil)) (.node (hob P 61) (.node (hob P 102) (.node (ob_318_2 P) .nil .nil) .nil) (.node (hob P 143) (.node (hob P 235) .nil .nil) .nil))))))))
noncomputable def st_2 (w : World) (os : OsState) : SharedT := ⟨tr_2 w.params, 407, { }, Array.mk [], { }, 698, os⟩
abbrev ps_2 : Pos := { line := 232, col := 0, endLine := 265, endCol := 44 }
noncomputable def envQ : Env := { scope := PySem.Challenge.rw_or0059_01.row.prog.main.scope, locals := mainNs, globals := mainNs, cells := [], code := .ref 13, frame := some 14 }
noncomputable def codeQ : Code := .body (behindTheImports PySem.Challenge.rw_or0059_01.row.prog) envQ
noncomputable def partQ (a n : Nat) : List Stmt := ((behindTheImports PySem.Challenge.rw_or0059_01.row.prog).drop a).take n
noncomputable abbrev partsQ : List Stmt := partQ 0 32 ++ (partQ 32 7 ++ [])
theorem body_eq : behindTheImports PySem.Challenge.rw_or0059_01.row.prog = partsQ := by kernel_rfl
end
section
open PySem PySem.W PyProof.Rows PySem.Calls
theorem g_s (w : World) (os : OsState) : segGoT treeTable PySem.Challenge.rw_or0059_01.row.prog w 11 (some (.ref 6)) 0 12 (s0 w os) (topStub PySem.Challenge.rw_or0059_01.row.prog) = some (st_0 w os, ⟨denote treeTable codeQ, codeQ, ps_0, [topFrame ps_0]⟩) := by kernel_rfl
theorem g_b (w : World) (os : OsState) : segRunT treeTable PySem.Challenge.rw_or0059_01.row.prog w 11 (some (.ref 6)) 1 1 (st_0 w os) (blockOf (behindTheImports PySem.Challenge.rw_or0059_01.row.prog) envQ codeQ ps_0 [topFrame ps_0]) = some (.next, st_0 w os, codeQ, ps_0) := by kernel_rfl
theorem g_e (w : World) (os : OsState) : (segRunT treeTable PySem.Challenge.rw_or0059_01.row.prog w 11 (some (.ref 6)) 0 5 (st_2 w os) ⟨doneF .next, codeQ, ps_2, [topFrame ps_0]⟩).map (fun r => r.2.1) = some (st_2 w os) := by kernel_rfl
end
section
open PySem PySem.W PyProof.Rows PySem.Calls
theorem g_1 (w : World) (os : OsState) : segRunT treeTable PySem.Challenge.rw_or0059_01.row.prog w 11 (some (.ref 6)) 1 1676 (st_0 w os) (piecesOf (partQ 0 32) envQ codeQ ps_0 [topFrame ps_0]) = some (.next, st_1 w os, codeQ, ps_1) := by kernel_rfl
end
section
open PySem PySem.W PyProof.Rows PySem.Calls
theorem g_2 (w : World) (os : OsState) : segRunT treeTable PySem.Challenge.rw_or0059_01.row.prog w 11 (some (.ref 6)) 1 1122 (st_1 w os) (piecesOf (partQ 32 7) envQ codeQ ps_1 [topFrame ps_0]) = some (.next, st_2 w os, codeQ, ps_2) := by kernel_rfl
end
section
open PySem PySem.W PyProof.Rows PySem.Calls
theorem topgo_of_seg {tb : String → Option Builtin} {p : Program} {w : World} {n₀ : Nat} {ann : Option Value} : ∀ {n : Nat} {s s' : Shared} {t t' : Thread}, segGo tb p w n₀ ann 0 n s t = some (s', t') → topGo tb p w n₀ ann n s t = some (s', t')
  | 0, _, _, _, _, h => h
  | n + 1, s, s', t, t', h => by
    have e := end_through t
    unfold segGo at h
    unfold topGo
    cases he : endAt 0 t with
    | some x => rw [he] at h; cases h
    | none =>
      rw [he] at h e
      rw [← e]
      cases hk : stepOk n₀ ann t with
      | false => rw [hk] at h; cases h
      | true =>
        rw [hk] at h
        cases hs : step (denote tb) p w s t with
        | halt o s' => rw [hs] at h; cases h
        | go s₂ t₂ => rw [hs] at h; exact topgo_of_seg h
theorem g_top (w : World) (os : OsState) : topRun treeTable PySem.Challenge.rw_or0059_01.row.prog w 11 (some (.ref 6)) 5 (st_2 w os).abs ⟨doneF .next, codeQ, ps_2, [topFrame ps_0]⟩ = some (st_2 w os).abs := by
  obtain ⟨⟨f, s', c, q⟩, h1, h2⟩ := Option.map_eq_some_iff.mp (g_e w os)
  cases h2
  exact top_of_seg (segRun_of h1)
noncomputable def runQ (w : World) (os : OsState) : Option Shared := some (st_2 w os).abs
theorem g_rest (w : World) (os : OsState) : topRun treeTable PySem.Challenge.rw_or0059_01.row.prog w 11 (some (.ref 6)) (1676 + (1122 + 5)) (st_0 w os).abs (restOf (behindTheImports PySem.Challenge.rw_or0059_01.row.prog) envQ codeQ ps_0 [topFrame ps_0]) = some (st_2 w os).abs := by
  rw [body_eq]
  exact (piece_app (segRun_of (g_1 w os)) (piece_app (segRun_of (g_2 w os)) (piece_nil (g_top w os))))
theorem s0_abs (w : World) (os : OsState) : (s0 w os).abs = ⟨boot_heap w.params, Array.mk [], boot_drawn, boot_toks, os⟩ := by
  show (⟨absHeap (bootT w.params) 11 {}, Array.mk [], boot_drawn, boot_toks, os⟩ : Shared) = _
  rw [boot_abs]
theorem runQ_spec (w : World) (os : OsState) (s : Shared) (h : runQ w os = some s) : topRun treeTable PySem.Challenge.rw_or0059_01.row.prog w 11 (some (.ref 6)) 4000 ⟨boot_heap w.params, Array.mk [], boot_drawn, boot_toks, os⟩ (topStub PySem.Challenge.rw_or0059_01.row.prog) = some s := by
  cases h
  rw [← s0_abs]
  exact topRun_mono 1184 _ _ _ _ (go_top (topgo_of_seg (segGo_of (g_s w os))) (piece_block (segRun_of (g_b w os)) (g_rest w os)))
end
section
open PySem PySem.W PyProof.Rows PySem.Calls
theorem h_c1 (w : World) (os : OsState) : (runQ w os).map (fun s => staticsOk (importedModules PySem.Challenge.rw_or0059_01.row.prog.main.body) (boot_heap w.params) s.heap && namesBound PySem.Challenge.rw_or0059_01.row.prog s.heap && gensDone s && laidKept (boot_heap w.params) s.heap) = some true := by kernel_rfl
end
section
open PySem PySem.W PyProof.Rows PySem.Calls
theorem h_c2 (w : World) (os : OsState) : (runQ w os).map (openSeen viewQ looseQ (importedModules PySem.Challenge.rw_or0059_01.row.prog.main.body) xtQ true) = some (openGood viewQ looseQ) := by kernel_rfl
end
section
open PySem PySem.W PyProof.Rows PySem.Calls
theorem h_c3 (w : World) (os : OsState) : (runQ w os).map (fun s => addrs.map s.heap.get?) = some ((hd.heap_1 w.params).map fun p => some p.2) := by kernel_rfl
end
section
open PySem PySem.W PyProof.Rows PySem.Calls
/-- the wire's object, its dict -/
abbrev wireO (da : Addr) (sl : Array (Option Value)) : Obj := ⟨.ref 381, some da, .plain, sl⟩
noncomputable abbrev wireD (w : World) (k1 k2 : Tok) (data : Array UInt8) (t1 : Tok) (at_ : Int) (t2 : Tok) : Obj :=
  dictOf [⟨PyData.keyHash w.params (PySem.Str.ofString "data"), .str (PySem.Str.ofString "data") k1, .bytes data t1⟩, ⟨PyData.keyHash w.params (PySem.Str.ofString "at"), .str (PySem.Str.ofString "at") k2, .int at_ t2⟩] 2
/-- a def that makes nothing that stays, and raises nothing -/
def GivesP (w : World) (f : Addr) (dk : Nat) (vs : List Value) (R : Value → Prop) : Prop :=
  ∀ (mean : ExcName → Option Value) (mg mb : PySem.Str → Option Value) (dp un : Nat) (gd : Option (List Code)) (cn : PySem.Str) (cs : Scope) (a : Addr) (ccd : Value) (cl : List (PySem.Str × Addr)) (outer : List Env) (A₀ : Around) (base h₀ : Heap) (L : Addr) (m : PySem.Str → Option Value) (s : Shared) (Q E : Value → Shared → Prop) (news : List (Addr × Obj)),
    Below A₀ base outer h₀ → Fr h₀ L s.heap m → (hd.heap_1 w.params).In h₀ → News h₀ L s.heap news → Top viewQ (looseW viewQ [PySem.Str.ofString "PostError"]) mean mg mb h₀ → cs.kind = .function →
    dp + dk < recursionLimit → un + 8 * dk < cLine →
    (∀ v h' tk', R v → Fr h₀ L h' m → News h₀ L h' news → Q v { s with heap := h', toks := tk' }) →
    wpAny (model PySem.Challenge.rw_or0059_01.row.prog w) (ktrTop dp un gd cn cs L a ccd cl outer) (call (.ref f) vs) Q E s
/-- a method of the wire: it may turn the wire's place, it may raise -/
def GivesW (w : World) (f : Addr) (dk : Nat) (wa da : Addr) (D : Int → Tok → Obj) (sl : Array (Option Value)) (i : Int) (xs : List Value) (R : Value → Int → Prop) (XC : Addr → Prop) : Prop :=
  ∀ (mean : ExcName → Option Value) (mg mb : PySem.Str → Option Value) (dp un : Nat) (gd : Option (List Code)) (cn : PySem.Str) (cs : Scope) (a : Addr) (ccd : Value) (cl : List (PySem.Str × Addr)) (outer : List Env) (A₀ : Around) (base h₀ : Heap) (L : Addr) (m : PySem.Str → Option Value) (s : Shared) (Q E : Value → Shared → Prop) (news : List (Addr × Obj)) (upd : Obj → List (Addr × Obj)) (t2 : Tok),
    Below A₀ base outer h₀ → Fr h₀ L s.heap m → (hd.heap_1 w.params).In h₀ → News h₀ L s.heap news → Top viewQ (looseW viewQ [PySem.Str.ofString "PostError"]) mean mg mb h₀ → cs.kind = .function →
    (∀ o', Upd da (D i t2) o' news (upd o')) → (wa, wireO da sl) ∈ news →
    dp + dk < recursionLimit → un + 8 * dk < cLine →
    (∀ v j t2' h' tk', R v j → Fr h₀ L h' m → News h₀ L h' (upd (D j t2')) → Q v { s with heap := h', toks := tk' }) →
    (∀ C e t vs o' g₂ h' tk', XC C → Fr h₀ L g₂ m → RaisedS base g₂ (envX cn cs L a ccd cl :: outer) e (.ref C) t vs (upd o') h' → g₂.UpToSlots h' → E (.ref e) { s with heap := h', toks := tk' }) →
    wpAny (model PySem.Challenge.rw_or0059_01.row.prog w) (ktrTop dp un gd cn cs L a ccd cl outer) (call (.ref f) (.ref wa :: xs)) Q E s
theorem RaisedS.sub {base G : Heap} {l : List Env} {e t : Addr} {cls : Value} {vs : List Value} {n₁ n₂ : List (Addr × Obj)} {h : Heap} (R : RaisedS base G l e cls t vs n₁ h) (hs : ∀ p ∈ n₂, p ∈ n₁) : RaisedS base G l e cls t vs n₂ h := by
  obtain ⟨⟨B, hB, hBG, hl, hfl, hnew⟩, htup⟩ := R
  exact ⟨⟨B, hB, hBG, fun q hq => hl q (hs q hq), hfl, hnew⟩, htup⟩
theorem givesW_start {w : World} {f : Addr} {dk : Nat} {wa da : Addr} {D : Int → Tok → Obj} {sl : Array (Option Value)} {i : Int} {xs : List Value} {R : Value → Int → Prop} {XC : Addr → Prop}
    (hD : ∀ t, D i t ≠ wireO da sl)
    (h : ∀ (mean : ExcName → Option Value) (mg mb : PySem.Str → Option Value) (dp un : Nat) (gd : Option (List Code)) (cn : PySem.Str) (cs : Scope) (a : Addr) (ccd : Value) (cl : List (PySem.Str × Addr)) (outer : List Env) (A₀ : Around) (base h₀ : Heap) (L : Addr) (m : PySem.Str → Option Value) (s : Shared) (Q E : Value → Shared → Prop) (rest : List (Addr × Obj)) (t2 : Tok),
      Below A₀ base outer h₀ → Fr h₀ L s.heap m → (hd.heap_1 w.params).In h₀ → News h₀ L s.heap ((da, D i t2) :: (wa, wireO da sl) :: rest) → Top viewQ (looseW viewQ [PySem.Str.ofString "PostError"]) mean mg mb h₀ → cs.kind = .function →
      (∀ p ∈ rest, p.1 ≠ da) → @Ne Nat wa da →
      dp + dk < recursionLimit → un + 8 * dk < cLine →
      (∀ v j t2' h' tk', R v j → Fr h₀ L h' m → News h₀ L h' ((da, D j t2') :: (wa, wireO da sl) :: rest) → Q v { s with heap := h', toks := tk' }) →
      (∀ C e t vs o' g₂ h' tk', XC C → Fr h₀ L g₂ m → RaisedS base g₂ (envX cn cs L a ccd cl :: outer) e (.ref C) t vs ((da, o') :: (wa, wireO da sl) :: rest) h' → g₂.UpToSlots h' → E (.ref e) { s with heap := h', toks := tk' }) →
      wpAny (model PySem.Challenge.rw_or0059_01.row.prog w) (ktrTop dp un gd cn cs L a ccd cl outer) (call (.ref f) (.ref wa :: xs)) Q E s) :
    GivesW w f dk wa da D sl i xs R XC := by
  intro mean mg mb dp un gd cn cs a ccd cl outer A₀ base h₀ L m s Q E news upd t2 B F X N T hk U hm hdp hun ret exc
  obtain ⟨pre, post, e1, e2, n1, n2⟩ := (U (D i t2)).split
  have hne : wa ≠ da := by
    intro q
    have x1 := (N _ hm).1
    have x2 := (N (da, D i t2) (by rw [e1]; simp)).1
    rw [q] at x1
    rw [x1] at x2
    exact hD t2 (Option.some.inj x2).symm
  have key : ∀ o', ∀ p ∈ upd o', p ∈ (da, o') :: (wa, wireO da sl) :: (pre ++ post) := by
    intro o' p hp
    obtain ⟨pre', post', f1, f2, m1, m2⟩ := (U o').split
    have : ∀ (l₁ l₂ r₁ r₂ : List (Addr × Obj)) (o : Obj), l₁ ++ (da, o) :: r₁ = l₂ ++ (da, o) :: r₂ → (∀ p ∈ l₁, p.1 ≠ da) → (∀ p ∈ l₂, p.1 ≠ da) → l₁ = l₂ ∧ r₁ = r₂ := by
      intro l₁
      induction l₁ with
      | nil =>
        intro l₂ r₁ r₂ o e _ h2
        cases l₂ with
        | nil => exact ⟨rfl, by simpa using e⟩
        | cons x l₂ =>
          simp only [List.nil_append, List.cons_append, List.cons.injEq] at e
          exact absurd (by rw [← e.1]) (h2 x (List.mem_cons_self ..))
      | cons x l₁ ih =>
        intro l₂ r₁ r₂ o e h1 h2
        cases l₂ with
        | nil =>
          simp only [List.nil_append, List.cons_append, List.cons.injEq] at e
          exact absurd (by rw [e.1]) (h1 x (List.mem_cons_self ..))
        | cons y l₂ =>
          simp only [List.cons_append, List.cons.injEq] at e
          obtain ⟨a1, a2⟩ := ih l₂ r₁ r₂ o e.2 (fun p hp => h1 p (List.mem_cons_of_mem _ hp)) fun p hp => h2 p (List.mem_cons_of_mem _ hp)
          exact ⟨by rw [e.1, a1], a2⟩
    obtain ⟨rfl, rfl⟩ := this _ _ _ _ _ (e1.symm.trans f1) n1 m1
    rw [f2] at hp
    simp only [List.mem_append, List.mem_cons] at hp ⊢
    rcases hp with hp | hp | hp
    · exact .inr (.inr (.inl hp))
    · exact .inl hp
    · exact .inr (.inr (.inr hp))
  refine h mean mg mb dp un gd cn cs a ccd cl outer A₀ base h₀ L m s Q E (pre ++ post) t2 B F X ?_ T hk ?_ hne hdp hun ?_ ?_
  · intro p hp
    rcases List.mem_cons.mp hp with rfl | hp
    · exact N _ (by rw [e1]; simp)
    · rcases List.mem_cons.mp hp with rfl | hp
      · exact N _ hm
      · exact N _ (by rw [e1]; simp only [List.mem_append, List.mem_cons] at hp ⊢; rcases hp with hp | hp; exact .inl hp; exact .inr (.inr hp))
  · intro p hp
    rcases List.mem_append.mp hp with hp | hp
    · exact n1 p hp
    · exact n2 p hp
  · intro v j t2' h' tk' hR F' N'
    exact ret v j t2' h' tk' hR F' fun p hp => N' p (key _ p hp)
  · intro C e t vs o' g₂ h' tk' hC F' R' U'
    exact exc C e t vs o' g₂ h' tk' hC F' (RaisedS.sub R' fun p hp => key _ p hp) U'
end
section
open PySem PySem.W PyProof.Rows PySem.Calls
theorem fill : ∀ w : World, (hd.heap_1 w.params).In (default : Heap) → PySem.Challenge.rw_or0059_01.row.prog = PySem.Challenge.rw_or0059_01.row.prog := by
  k_fill
  intros; rfl
def figB (c : Int) : Bool := decide (48 ≤ c ∧ c ≤ 57)
theorem ret_bool {h₀ h' : Heap} {L : Addr} {m : PySem.Str → Option Value} {news : List (Addr × Obj)} {s : Shared} {Q : Value → Shared → Prop} {tk' : Nat} {x y : Bool}
    (ret : ∀ v h' tk', v = .bool x → Fr h₀ L h' m → News h₀ L h' news → Q v { s with heap := h', toks := tk' }) (F : Fr h₀ L h' m) (N : News h₀ L h' news) (e : y = x) : Q (.bool y) { s with heap := h', toks := tk' } := by
  subst e
  exact ret _ h' tk' rfl F N
theorem is_figure_c (w : World) (c : Int) (t : Tok) : GivesP w 189 1 [.int c t] (fun v => v = .bool (figB c)) := by
  k_with_none
  intro mean mg mb dp un gd cn cs a ccd cl outer A₀ base h₀ L m s Q E news B F X N T hk hdp hun ret
  refine wpAny_call ?_
  k_dflt ktr_enter
  k_steps
  all_goals (refine ret_bool ret (by assumption) (by assumption) ?_; unfold figB; simp_all <;> omega)
def prtB (c : Int) : Bool := decide (33 ≤ c ∧ c ≤ 126)
theorem is_printable_c (w : World) (c : Int) (t : Tok) : GivesP w 161 1 [.int c t] (fun v => v = .bool (prtB c)) := by
  k_with_none
  intro mean mg mb dp un gd cn cs a ccd cl outer A₀ base h₀ L m s Q E news B F X N T hk hdp hun ret
  refine wpAny_call ?_
  k_dflt ktr_enter
  k_steps
  all_goals (refine ret_bool ret (by assumption) (by assumption) ?_; unfold prtB; simp_all <;> omega)
theorem GivesP.use {w : World} {f : Addr} {dk : Nat} {vs : List Value} {R : Value → Prop} (G : GivesP w f dk vs R)
    {mean : ExcName → Option Value} {mg mb : PySem.Str → Option Value} {dp un : Nat} {gd : Option (List Code)} {cn : PySem.Str} {cs : Scope} {a : Addr} {ccd : Value} {cl : List (PySem.Str × Addr)} {outer : List Env} {A₀ : Around} {base h₀ : Heap} {L : Addr} {m : PySem.Str → Option Value} {s : Shared} {Q E : Value → Shared → Prop} {news : List (Addr × Obj)}
    (B : Below A₀ base outer h₀) (F : Fr h₀ L s.heap m) (X : (hd.heap_1 w.params).In h₀) (N : News h₀ L s.heap news) (T : Top viewQ (looseW viewQ [PySem.Str.ofString "PostError"]) mean mg mb h₀) (hk : cs.kind = .function)
    (hdp : dp + dk < recursionLimit) (hun : un + 8 * dk < cLine)
    (ret : ∀ v h' tk', R v → Fr h₀ L h' m → News h₀ L h' news → Q v { s with heap := h', toks := tk' }) :
    wpAny (model PySem.Challenge.rw_or0059_01.row.prog w) (ktrTop dp un gd cn cs L a ccd cl outer) (call (.ref f) vs) Q E s := G mean mg mb dp un gd cn cs a ccd cl outer A₀ base h₀ L m s Q E news B F X N T hk hdp hun ret
theorem GivesP.use2 {w : World} {f : Addr} {dk : Nat} {vs : List Value} {R : Value → Prop}
    {mean : ExcName → Option Value} {mg mb : PySem.Str → Option Value} {dp un : Nat} {gd : Option (List Code)} {cn : PySem.Str} {cs : Scope} {a : Addr} {ccd : Value} {cl : List (PySem.Str × Addr)} {outer : List Env} {A₀ : Around} {base h₀ : Heap} {L : Addr} {m : PySem.Str → Option Value} {s : Shared} {Q E : Value → Shared → Prop} {news : List (Addr × Obj)}
    (B : Below A₀ base outer h₀) (F : Fr h₀ L s.heap m) (X : (hd.heap_1 w.params).In h₀) (N : News h₀ L s.heap news) (T : Top viewQ (looseW viewQ [PySem.Str.ofString "PostError"]) mean mg mb h₀) (hk : cs.kind = .function)
    (hdp : dp + dk < recursionLimit) (hun : un + 8 * dk < cLine) (G : GivesP w f dk vs R)
    (ret : ∀ v h' tk', R v → Fr h₀ L h' m → News h₀ L h' news → Q v { s with heap := h', toks := tk' }) :
    wpAny (model PySem.Challenge.rw_or0059_01.row.prog w) (ktrTop dp un gd cn cs L a ccd cl outer) (call (.ref f) vs) Q E s := G mean mg mb dp un gd cn cs a ccd cl outer A₀ base h₀ L m s Q E news B F X N T hk hdp hun ret
theorem gives_bytes_contains (b : Array UInt8) (x : Int) (t u : Tok) (h0 : 0 ≤ x) (h1 : x < 256) : Gives (Builtin.«bytes.__contains__» ⟨[.bytes b t, .int x u], []⟩) (.val (.bool (b.contains x.toNat.toUInt8))) := by
  refine .of_wp fun M A E s Q hq => ?_
  show wpAny M A (Builtin.Bytes.containsIn "bytes.__contains__" (.bytes b t) (.int x u) >>= fun r => _) _ E s
  have e : Builtin.Bytes.containsIn "bytes.__contains__" (.bytes b t) (.int x u) = pure (b.contains x.toNat.toUInt8) := by
    unfold Builtin.Bytes.containsIn
    have e1 : (asIndex (.int x u)).attempt = pure (.ok x) := rfl
    rw [e1, KBy.buffer_eq]
    show (if (decide (x < 0) || decide (x ≥ 256)) = true then _ else _) = _
    rw [if_neg (by simp; omega)]
  refine wpAny_bind (wpAny_of_eq e ?_)
  exact wpAny_pure ⟨_, rfl, hq⟩
theorem contains_ints (b : Array UInt8) (x : Int) (h0 : 0 ≤ x) (h1 : x < 256) : b.contains x.toNat.toUInt8 = (KBw.bInts b).contains x := by
  rw [Bool.eq_iff_iff]
  simp only [Array.contains_iff_mem, List.contains_iff_mem]
  constructor
  · intro h
    refine List.mem_map.mpr ⟨_, Array.mem_toList_iff.mpr h, ?_⟩
    have : x.toNat.toUInt8.toNat = x.toNat := by
      show (UInt8.ofNat x.toNat).toNat = x.toNat
      rw [UInt8.toNat_ofNat']
      omega
    rw [this]
    omega
  · intro h
    obtain ⟨c, hc, e⟩ := List.mem_map.mp h
    have : x.toNat.toUInt8 = c := by
      have : x.toNat = c.toNat := by omega
      rw [this]
      show UInt8.ofNat c.toNat = c
      exact UInt8.ofNat_toNat
    rw [this]
    exact Array.mem_toList_iff.mp hc
theorem in_bytes {prog : Program} {w : World} {A : Around} {E : Value → Shared → Prop} {s : Shared} {b : Array UInt8} {t u : Tok} {x : Int} {ls : List Int} {Q : Value → Shared → Prop} (h0 : 0 ≤ x) (h1 : x < 256) (hb : KBw.bInts b = ls)
    (h : Q (.bool (ls.contains x)) s) : wpAny (model prog w) A (compareOp .In (.int x u) (.bytes b t)) Q E s := by
  refine in_gives (typeIs_bytes s b t) FB.slot_bytes_contains FB.entry_bytes_contains (FB.args_bytes_contains_2 _ _) (gives_bytes_contains b x t u h0 h1) ?_
  rw [contains_ints b x h0 h1, hb]; exact h
theorem notin_bytes {prog : Program} {w : World} {A : Around} {E : Value → Shared → Prop} {s : Shared} {b : Array UInt8} {t u : Tok} {x : Int} {ls : List Int} {Q : Value → Shared → Prop} (h0 : 0 ≤ x) (h1 : x < 256) (hb : KBw.bInts b = ls)
    (h : Q (.bool (!ls.contains x)) s) : wpAny (model prog w) A (compareOp .NotIn (.int x u) (.bytes b t)) Q E s := by
  refine notIn_gives (typeIs_bytes s b t) FB.slot_bytes_contains FB.entry_bytes_contains (FB.args_bytes_contains_2 _ _) (gives_bytes_contains b x t u h0 h1) ?_
  rw [contains_ints b x h0 h1, hb]; exact h
def atomB (c : Int) : Bool := prtB c && !([40, 41, 123, 37, 42, 34, 92, 93] : List Int).contains c
theorem is_atom_c (w : World) (c : Int) (t : Tok) (h0 : 0 ≤ c) (h1 : c < 256) : GivesP w 168 2 [.int c t] (fun v => v = .bool (atomB c)) := by
  k_with_none
  k_with "compareOp NotIn int bytes" => (k_here; (with_reducible show wpAny _ _ (compareOp CmpOp.NotIn (Value.int _ _) (Value.bytes _ _)) _ _ _); refine notin_bytes ?_ ?_ rfl ?_; (first | assumption | omega); (first | assumption | omega))
  k_with "compareOp In int bytes" => (k_here; (with_reducible show wpAny _ _ (compareOp CmpOp.In (Value.int _ _) (Value.bytes _ _)) _ _ _); refine in_bytes ?_ ?_ rfl ?_; (first | assumption | omega); (first | assumption | omega))
  k_with "call ref" => (k_here; (with_reducible show wpAny _ _ (call (Value.ref 161) _) _ _ _); k_dflt (refine' GivesP.use2 (by k_asm) (by k_asm) (by k_asm) (by k_asm) (by k_asm) (by first | exact rfl | assumption) (by ktr_room) (by ktr_units) (is_printable_c _ _ _) ?_; intro v9 h9 tk9 r9 F9 N9; subst r9; (try dsimp only); (try k_fold)))
  intro mean mg mb dp un gd cn cs a ccd cl outer A₀ base h₀ L m s Q E news B F X N T hk hdp hun ret
  refine wpAny_call ?_
  k_dflt ktr_enter
  k_steps
  all_goals (refine ret_bool ret (by assumption) (by assumption) ?_; unfold atomB)
  · rw [‹prtB c = true›]; rfl
  · rw [‹prtB c = false›]; rfl
def astrB (c : Int) : Bool := atomB c || c == 93
theorem is_astr_c (w : World) (c : Int) (t : Tok) (h0 : 0 ≤ c) (h1 : c < 256) : GivesP w 175 3 [.int c t] (fun v => v = .bool (astrB c)) := by
  k_with_none
  k_with "compareOp NotIn int bytes" => (k_here; (with_reducible show wpAny _ _ (compareOp CmpOp.NotIn (Value.int _ _) (Value.bytes _ _)) _ _ _); refine notin_bytes ?_ ?_ rfl ?_; (first | assumption | omega); (first | assumption | omega))
  k_with "compareOp In int bytes" => (k_here; (with_reducible show wpAny _ _ (compareOp CmpOp.In (Value.int _ _) (Value.bytes _ _)) _ _ _); refine in_bytes ?_ ?_ rfl ?_; (first | assumption | omega); (first | assumption | omega))
  k_with "call ref" => (k_here; (with_reducible show wpAny _ _ (call (Value.ref 161) _) _ _ _); k_dflt (refine' GivesP.use2 (by k_asm) (by k_asm) (by k_asm) (by k_asm) (by k_asm) (by first | exact rfl | assumption) (by ktr_room) (by ktr_units) (is_printable_c _ _ _) ?_; intro v9 h9 tk9 r9 F9 N9; subst r9; (try dsimp only); (try k_fold)))
  k_with "call ref" => (k_here; (with_reducible show wpAny _ _ (call (Value.ref 168) _) _ _ _); k_dflt (refine' GivesP.use2 (by k_asm) (by k_asm) (by k_asm) (by k_asm) (by k_asm) (by first | exact rfl | assumption) (by ktr_room) (by ktr_units) (is_atom_c _ _ _ (by assumption) (by assumption)) ?_; intro v9 h9 tk9 r9 F9 N9; subst r9; (try dsimp only); (try k_fold)))
  intro mean mg mb dp un gd cn cs a ccd cl outer A₀ base h₀ L m s Q E news B F X N T hk hdp hun ret
  refine wpAny_call ?_
  k_dflt ktr_enter
  k_steps
  all_goals (refine ret_bool ret (by assumption) (by assumption) ?_; unfold astrB)
  · rw [‹atomB c = true›]; rfl
  · rw [‹atomB c = false›]; rfl
end
section
open PySem PySem.W PyProof.Rows PySem.Calls
section
variable {A : Around} {E : Value → Shared → Prop} {h : Heap} {g : Array GenState} {d : Drawn} {t : Nat} {os : OsState}
variable {nm q : PySem.Str} {C N : Addr} {bs bm : List Value} {hdct : Bool} {sn : List PySem.Str} {sub : List Value} {ab : Bool} {col : Option Bool} {dd : Option Addr} {k0 k1 k2 k3 k5 : Option Value} {B Bn newId nid initId inN : String} {bmB bmN : List Value}
theorem check_init_V (F : ExcBaseFacts B nid initId bmB) (hB : bm.contains (.type B) = true) {M : Model} {e : Addr} {oe : Obj} {rest : List Value} {Q : Unit → Shared → Prop}
    (hC : h.get? C = some (excClassObj nm q C N bs bm hdct sn sub ab col dd k0 k1 k2 k3 k5 newId)) (he : h.get? e = some oe) (hcls : oe.cls = .ref C) (hq : Q () ⟨h, g, d, t, os⟩) :
    wpAny M A (checkBuiltinCall initId ⟨.ref e :: rest, []⟩) Q E ⟨h, g, d, t, os⟩ := by
  have hcB : (Value.ref C :: bm).contains (.type B) = true := by rw [List.contains_cons, hB, Bool.or_true]
  have hshort := F.noStar
  simp only [checkBuiltinCall, F.initKind, F.initSplit, F.initRow]
  repeat (first | (with_reducible refine wpAny_loadPart_at he ?_; rw [hcls]) | with_reducible refine wpAny_loadPart_at hC ?_ | (with_reducible refine wpAny_isSubtype_exc hC ?_; rw [hcB]) | wp_step)
  refine wpAny_onRaise ?_
  rw [show ∀ (a b : String) (n : Nat), Bind.check ⟨.positional, "*", B, .self, [⟨"args", .varPos, false⟩]⟩ a b n (List.map (fun x => x.fst) ({ pos := Value.ref e :: rest } : Args).kw) = pure () from
    fun a b n => check_star_args _ _ _ _ _ _]
  exact wpAny_pure hq
theorem check_new_V (Fn : ExcBaseFacts Bn newId inN bmN) (hBn : bm.contains (.type Bn) = true) {M : Model} {rest : List Value} {Q : Unit → Shared → Prop} (hC : h.get? C = some (excClassObj nm q C N bs bm hdct sn sub ab col dd k0 k1 k2 k3 k5 newId))
    (hq : Q () ⟨h, g, d, t, os⟩) : wpAny M A (checkBuiltinCall newId ⟨.ref C :: rest, []⟩) Q E ⟨h, g, d, t, os⟩ := by
  have hcont : (Value.ref C :: bm).contains (.type Bn) = true := by rw [List.contains_cons, hBn, Bool.or_true]
  have hstar := Fn.noStar
  simp only [checkBuiltinCall, Fn.newKind, Fn.newSplit, Fn.newRow]
  repeat (first | refine wpAny_loadPart_at hC ?_ | (refine wpAny_isSubtype_exc hC ?_; rw [hcont]) | refine wpAny_staticBase_exc hC ?_ | refine wpAny_madeBy_exc hC ?_ | simp only [bne_self_eq_false, Bool.false_eq_true, if_false] | wp_step)
  exact hq
end
section
variable {prog : Program} {w : World} {A : Around} {R : Result → Shared → Prop} {h : Heap} {g : Array GenState} {d : Drawn} {t : Nat} {os : OsState}
variable {nm q : PySem.Str} {C N : Addr} {bs bm : List Value} {hdct : Bool} {sn : List PySem.Str} {sub : List Value} {ab : Bool} {col : Option Bool} {dd : Option Addr} {k0 k1 k2 k3 k5 : Option Value} {Bn newId inN : String} {bmN : List Value}
theorem exc_new_V (Fn : ExcBaseFacts Bn newId inN bmN) (hBn : bm.contains (.type Bn) = true) (nA : bm.contains (.type "AttributeError") = false) (nN : bm.contains (.type "NameError") = false) {rest : List Value} (hC : h.get? C = some (excClassObj nm q C N bs bm hdct sn sub ab col dd k0 k1 k2 k3 k5 newId))
    (hq : R (.ok (.ret (.ref (h.objs.size + 1)))) ⟨(h.push { cls := .type "tuple", data := .seq rest.toArray }).push
      { cls := .ref C, data := .fields #[.ref h.objs.size, .none, .none, .none, .bool false, .none] }, g, d, t, os⟩) (hrest : rest.length ≤ sizeLine) :
    codeAny (model prog w) A (.builtin newId ⟨.ref C :: rest, []⟩) R ⟨h, g, d, t, os⟩ := by
  have hends := Fn.ends
  have hcB : (Value.ref C :: bm).contains (.type Bn) = true := by rw [List.contains_cons, hBn, Bool.or_true]
  have hcA : (Value.ref C :: bm).contains (.type "AttributeError") = false := by rw [List.contains_cons, nA]; rfl
  have hcN : (Value.ref C :: bm).contains (.type "NameError") = false := by rw [List.contains_cons, nN]; rfl
  refine codeAny_builtinAt Fn.entry ?_
  unfold Builtin.«BaseException.__new__»
  refine _root_.PySem.wpAt_bind ?_
  show _root_.PySem.wpAt _ _ _ (stack >>= _) _ _ _
  refine _root_.PySem.wpAt_bind (_root_.PySem.wpAt_stack fun p below => _root_.PySem.wpAt_of_wpAny ?_)
  wp_walk
  refine _root_.PySem.wpAt_of_wpAny ?_
  rw [Fn.owner]
  repeat (first | with_reducible refine wpAny_madeHere_exc Fn.canon hC ?_ | with_reducible refine wpAny_loadPart_at hC ?_ | (with_reducible refine wpAny_isSubtype_exc hC ?_; first | rw [hcB] | rw [hcA] | rw [hcN]) | wp_step)
  show R _ _
  rw [Heap.size_push]
  exact hq
end
theorem exc_init_K {prog : Program} {w : World} {A : Around} {E : Value → Shared → Prop} {s : Shared} {K : Frag} {h₀ : Heap} {L : Addr} {m : PySem.Str → Option Value} {rest : List (Addr × Obj)} {Q : Value → Shared → Prop}
    {e t0 : Addr} {ed : Option Addr} {sl : Array (Option Value)} {v : Value}
    {nm q : PySem.Str} {C Nn : Addr} {bs bm : List Value} {hdct : Bool} {sn : List PySem.Str} {sub : List Value} {ab : Bool} {col : Option Bool} {dd : Option Addr} {k0 k1 k2 k3 k5 : Option Value} {newId : String}
    (F : Fr h₀ L s.heap m) (X₀ : K.In h₀) (N : News h₀ L s.heap ((e, ⟨.ref C, ed, .fields #[.ref t0, .none, .none, .none, .bool false, .none], sl⟩) :: rest)) (hr : ∀ p ∈ rest, p.1 ≠ e)
    (hC : K.lookup C = some (excClassObj nm q C Nn bs bm hdct sn sub ab col dd k0 k1 k2 k3 k5 newId)) (hB : bm.contains (.type "Exception") = true)
    (h : ∀ t1 h', Fr h₀ L h' m → News h₀ L h' ((e, ⟨.ref C, ed, .fields #[.ref t1, .none, .none, .none, .bool false, .none], sl⟩) :: (t1, ({ cls := .type "tuple", data := .seq [v].toArray } : Obj)) :: rest) → (∀ p ∈ rest, p.1 < t1) → @LT.lt Nat _ e t1 → Q .none { s with heap := h' }) :
    wpAny (model prog w) A (call (.builtin "Exception.__init__") [.ref e, v]) Q E s := by
  have F0 := PySem.F.excBase_Exception
  have he := (N _ (.head _)).1
  have hC' := (X₀.keeps F.keep) _ _ hC
  obtain ⟨hh, g, d, t, os⟩ := s
  refine wpAny_call (codeAny_call_builtin F0.init.plain F0.initEntry (check_init_V F0 hB hC' he rfl ?_))
  wp_walk
  show Q .none _
  have he' : hh.get? e = some ⟨.ref C, ed, .fields #[.ref t0, .none, .none, .none, .bool false, .none], sl⟩ := he
  have lt : ∀ p ∈ rest, p.1 < hh.objs.size := fun p hp => Heap.lt_size (N p (.tail _ hp)).1
  have lte : e < hh.objs.size := Heap.lt_size he'
  have N1 := News.push F N ({ cls := .type "tuple", data := .seq #[v] } : Obj)
  obtain ⟨F2, N2⟩ := news_upd (pre := [(hh.objs.size, ({ cls := .type "tuple", data := .seq #[v] } : Obj))]) (f := Obj.mapFields fun x => x.setIfInBounds 0 (Value.ref hh.objs.size)) (F.push _) N1
    (fun p hp => by rw [List.mem_singleton.mp hp]; exact Nat.ne_of_gt lte) hr (o' := ⟨.ref C, ed, .fields #[.ref hh.objs.size, .none, .none, .none, .bool false, .none], sl⟩) rfl rfl
  refine h hh.objs.size _ F2 (fun p hp => N2 p ?_) lt lte
  simp only [List.mem_cons, List.singleton_append] at hp ⊢
  rcases hp with hp | hp | hp
  · exact .inr (.inl hp)
  · exact .inl hp
  · exact .inr (.inr hp)
section
variable {prog : Program} {w : World} {A : Around} {E : Value → Shared → Prop} {h : Heap} {g : Array GenState} {d : Drawn} {t : Nat} {os : OsState} {K : Frag}
variable {nm q : PySem.Str} {C N : Addr} {bs bm : List Value} {hdct : Bool} {sn : List PySem.Str} {sub : List Value} {ab : Bool} {col : Option Bool} {dd : Option Addr} {k0 k1 k2 k3 k5 : Option Value} {Bn newId inN : String} {bmN : List Value}
theorem type_call_V (Fn : ExcBaseFacts Bn newId inN bmN) (hBn : bm.contains (.type Bn) = true) (nA : bm.contains (.type "AttributeError") = false) (nN : bm.contains (.type "NameError") = false) {rest : List Value} {fI : Addr} {Q : Fin → Shared → Prop}
    (X : K.In h) (hC : h.get? C = some (excClassObj nm q C N bs bm hdct sn sub ab col dd k0 k1 k2 k3 k5 newId)) (hi : findIn K (.ref C) (PySem.Str.ofString "__init__") = some (some (.ref fI))) (hf : typeIn K (.ref fI) = some (.type "function"))
    (hq : ∀ h' e, Heap.MadeExcOf h h' e (.ref C) rest →
      wpAny (model prog w) A (call (.ref fI) (.ref e :: rest)) (fun r s' => r = .none ∧ Q (.done (.ret (.ref e))) s') E ⟨h', g, d, t, os⟩) (hrest : rest.length ≤ sizeLine) :
    wpAny (model prog w) A (Builtin.«type.__call__» ⟨.ref C :: rest, []⟩) Q E ⟨h, g, d, t, os⟩ := by
  repeat (first | with_reducible refine wpAny_loadPart_at hC ?_ | with_reducible refine wpAny_madeBy_exc hC ?_ | wp_step)
  refine codeAny_call_builtin_code (Code.quiet_builtin _ Fn.quiet) (check_new_V Fn hBn hC ?_)
  refine exc_new_V Fn hBn nA nN hC ?_ hrest
  show wpAny _ _ _ _ _ _
  have hC₁ := Heap.get?_push_of_some { cls := .ref C, data := .fields #[.ref h.objs.size, .none, .none, .none, .bool false, .none] }
    (Heap.get?_push_of_some { cls := .type "tuple", data := .seq rest.toArray } hC)
  have kp : ∀ b o, h.get? b = some o → ((h.push { cls := .type "tuple", data := .seq rest.toArray }).push { cls := .ref C, data := .fields #[.ref h.objs.size, .none, .none, .none, .bool false, .none] }).get? b = some o := fun b o e => Heap.get?_push_of_some _ (Heap.get?_push_of_some _ e)
  have X₁ := X.keeps kp
  have hget : ((h.push { cls := .type "tuple", data := .seq rest.toArray }).push
      { cls := .ref C, data := .fields #[.ref h.objs.size, .none, .none, .none, .bool false, .none] }).get? (h.objs.size + 1) = some
      { cls := .ref C, data := .fields #[.ref h.objs.size, .none, .none, .none, .bool false, .none] } := by heap_get
  have hcC : (Value.ref C :: bm).contains (.ref C) = true := by simp
  unfold isInstance
  repeat (first | with_reducible refine wpAny_loadPart_at hget ?_ | (with_reducible refine wpAny_isSubtype_exc hC₁ ?_; rw [hcC]) | wp_step)
  show wpAny _ _ (typeLookup (.ref C) _) _ _ _
  refine (looks_findIn X₁ hi).here ?_
  refine wpAny_holding (wpAny_bind ((bind_fn X₁ _ hf).here ?_))
  refine wpAny_bind (wpAny_mono (hq _ (h.objs.size + 1) ⟨kp, Heap.get?_none_of_le (Nat.le_succ _), h.objs.size, hget, Heap.get?_none_of_le (Nat.le_refl _), ?_⟩) (fun r s' hr => ?_) fun _ _ x => x)
  · exact Heap.get?_push_of_some _ (Heap.get?_push_at rfl rfl)
  · obtain ⟨rfl, hQ⟩ := hr
    wp_walk
    exact hQ
theorem call_exc_V (Fn : ExcBaseFacts Bn newId inN bmN) (hBn : bm.contains (.type Bn) = true) (nA : bm.contains (.type "AttributeError") = false) (nN : bm.contains (.type "NameError") = false) {rest : List Value} {fI : Addr} {Q : Value → Shared → Prop}
    (X : K.In h) (hC : h.get? C = some (excClassObj nm q C N bs bm hdct sn sub ab col dd k0 k1 k2 k3 k5 newId)) (hi : findIn K (.ref C) (PySem.Str.ofString "__init__") = some (some (.ref fI))) (hf : typeIn K (.ref fI) = some (.type "function"))
    (hq : ∀ h' e, Heap.MadeExcOf h h' e (.ref C) rest →
      wpAny (model prog w) (A.under (.builtin "type.__call__" ⟨.ref C :: rest, []⟩)) (call (.ref fI) (.ref e :: rest)) (fun r s' => r = .none ∧ Q (.ref e) s') E ⟨h', g, d, t, os⟩) (hrest : rest.length ≤ sizeLine) :
    wpAny (model prog w) A (call (.ref C) rest) Q E ⟨h, g, d, t, os⟩ := by
  have f1 := tc_lookup
  have f2 := tc_bind (.ref C)
  have hT : (⟨h, g, d, t, os⟩ : Shared).TypeIs (.ref C) "type" := ⟨_, hC, rfl⟩
  refine wpAny_call (codeAny_of_tree ?_)
  show wpAny _ _ (callAny (.ref C) _) _ _ _
  repeat (any_goals (first | assumption | with_reducible refine wpAny_loadPart_at hC ?_ | wp_step))
  refine ⟨rfl, ?_⟩
  refine codeAny_call_builtin_at (Code.quiet_builtin _ (by decide +kernel)) entry_typeCall (wpAny_check_type_call_sub hC (type_call_V (hrest := hrest) Fn hBn nA nN X hC hi hf fun h' e hm => ?_))
  exact hq h' e hm
end
end
section
open PySem PySem.W PyProof.Rows PySem.Calls
theorem fr_same {h₀ h h' : Heap} {L dx : Addr} {m : PySem.Str → Option Value} (F : Fr h₀ L h m) (hs : Heap.SameBut dx h h') (hL : dx ≠ L) (h0 : h₀.get? dx = none) : Fr h₀ L h' m := by
  obtain ⟨⟨o, es, ep, e, r⟩, k, ab⟩ := F
  exact ⟨⟨o, es, ep, (hs.2 L (Ne.symm hL)).trans e, r⟩, fun b o' eb => (hs.2 b fun q => by rw [q, h0] at eb; cases eb).trans (k b o' eb), ab⟩
section
open PySem.Builtin PySem.Builtin.ObjectAttr
variable {prog : Program} {w : World} {A : Around} {E : Value → Shared → Prop} {s : Shared} {K : Frag} {h₀ : Heap} {L : Addr} {m : PySem.Str → Option Value} {rest : List (Addr × Obj)} {C P x e dx : Addr} {cd : ClassData}
theorem osa_openE {ox : Obj} {od : Option Obj} {name : PySem.Str} {tk : Tok} {v : Value} {R : Result → Shared → Prop} (X : K.In s.heap) (I : PySem.W.InstAt s.heap x ox C od) (hc : clsIn K C = some cd) (hm : cd.mro = [.ref C, .ref P, .type "Exception", .type "BaseException", .type "object"])
    (hsub : subIn K (.ref C) (.type "object") = some true) (ha : findIn K (.ref C) name = some none)
    (h : ∀ b, wpAny (model prog w) A.in1 (storeInOwnDict (.ref x) (.ref C) (.str name tk) name v b)
      (fun fin s' => match fin with | .done f => R (.ok f) s' | .again c' => c'.quiet = true ∧ codeAny (model prog w) A c' R s') (fun e s' => R (.error e) s') s) :
    codeAny (model prog w) A (.call (.builtin "object.__setattr__") ⟨[.ref x, .str name tk, v], []⟩) R s := by
  have SF := PySem.F.store_object
  have sub : Looks (model prog w) s.heap (isInstance (.ref x) (.type "object")) true := I.type.andThen (looks_subIn X hsub)
  refine codeAny_call_builtin SF.slot.plain SF.entry (@check_slot (model prog w) _ _ s "object.__setattr__" "object" "__setattr__" (.ref x) [.str name tk, v] [] _ SF.kind SF.split sub (SF.args (.ref x) (.str name tk) v) ?_)
  have hmr : Looks (model prog w) s.heap (mroOf (.ref C)) cd.mro := (looks_clsIn X hc).andThen .now
  rw [osa_eq, refuse_eq]
  refine wpAny_bind (wpAny_bind (I.type.here (wpAny_bind (hmr.here ?_))))
  rw [hm, refuseLoop_ref, refuseLoop_ref, PySem.F.store_Exception.passes]
  refine wpAny_pure (wpAny_bind (I.type.here (wpAny_bind ((looks_findIn X ha).here (wpAny_bind ?_)))))
  exact wpAny_pure (h _)
theorem set_exc_new {name : PySem.Str} {v : Value} {fs : Array Value} {sl : Array (Option Value)} {Q : Unit → Shared → Prop}
    (F : Fr h₀ L s.heap m) (X₀ : K.In h₀) (N : News h₀ L s.heap ((e, ⟨.ref C, none, .fields fs, sl⟩) :: rest)) (hr : ∀ p ∈ rest, p.1 ≠ e)
    (hs : findIn K (.ref C) (PySem.Str.ofString "__setattr__") = some (some (.builtin "object.__setattr__"))) (hc : clsIn K C = some cd) (hm : cd.mro = [.ref C, .ref P, .type "Exception", .type "BaseException", .type "object"]) (hd : cd.hasDict = true)
    (hsub : subIn K (.ref C) (.type "object") = some true) (ha : findIn K (.ref C) name = some none)
    (h : ∀ dx od h' tk', Fr h₀ L h' m → News h₀ L h' ((e, ⟨.ref C, some dx, .fields fs, sl⟩) :: (dx, od) :: rest) → h'.Ns1 dx (fun y => if y = name then some v else none) → (∀ p ∈ rest, p.1 < dx) → @LT.lt Nat _ e dx → Q () { s with heap := h', toks := tk' }) :
    wpAny (model prog w) A (setAttr (.ref e) name v) Q E s := by
  obtain ⟨hh, g, d, t, os⟩ := s
  have F : Fr h₀ L hh m := F
  have N : News h₀ L hh ((e, ⟨.ref C, none, .fields fs, sl⟩) :: rest) := N
  have X : K.In hh := X₀.keeps F.keep
  have he : hh.get? e = some ⟨.ref C, none, .fields fs, sl⟩ := (N _ (.head _)).1
  have I : PySem.W.InstAt hh e ⟨.ref C, none, .fields fs, sl⟩ C none := ⟨he, rfl, rfl, trivial⟩
  have lt : ∀ p ∈ rest, p.1 < hh.objs.size := fun p hp => Heap.lt_size (N p (.tail _ hp)).1
  have lte : e < hh.objs.size := Heap.lt_size he
  refine set_plain (s := ⟨hh, g, d, t, os⟩) X I hs ?_
  refine osa_openE (s := ⟨hh, g, d, t + 1, os⟩) X I hc hm hsub ha fun b => ?_
  refine wpAny_bind (wpAny_pure (wpAny_bind (wpAny_bind (wpAny_loadPart he (wpAny_bind ((looks_clsIn X hc).at ?_))))))
  rw [hd]
  have hx₁ : (hh.push { cls := .type "dict", data := .dict #[] }).get? e = some ⟨.ref C, none, .fields fs, sl⟩ := Heap.get?_push_of_some _ he
  refine wpAny_bind (wpAny_alloc' ?_)
  refine wpAny_bind (wpAny_update' hx₁ ?_)
  refine wpAny_pure ?_
  have N1 := News.push F N ({ cls := .type "dict", data := .dict #[] } : Obj)
  obtain ⟨F2, N2⟩ := news_upd (pre := [(hh.objs.size, ({ cls := .type "dict", data := .dict #[] } : Obj))]) (f := fun o => { cls := o.cls, dict := some hh.objs.size, data := o.data, slots := o.slots }) (F.push _) N1
    (fun p hp => by rw [List.mem_singleton.mp hp]; exact Nat.ne_of_gt lte) hr (o' := ⟨.ref C, some hh.objs.size, .fields fs, sl⟩) rfl rfl
  have hgd := (N2 (hh.objs.size, ({ cls := .type "dict", data := .dict #[] } : Obj)) (by simp)).1
  have hnd : ((hh.push { cls := .type "dict", data := .dict #[] }).update e fun o => { cls := o.cls, dict := some hh.objs.size, data := o.data, slots := o.slots }).Ns hh.objs.size (fun _ => none) :=
    ⟨_, #[], _, hgd, rfl, fun e he => absurd he (by simp), fun _ => rfl⟩
  show wpAny _ _ (storeInDict hh.objs.size (.str name t) name v) _ _ _
  unfold storeInDict newKeyGuard
  refine wpAny_bind (wpAny_pure (wpAny_bind (wpAny_nsSet1 (Heap.Ns1.of_empty hnd) fun h' hn' hs => ?_)))
  obtain ⟨oD, esD, epD, hoD, hdD, hcD⟩ := hn'.count (Within.cons name v Within.nil)
  refine wpAny_bind (wpAny_lookBehind hoD (by rw [hdD]; exact pastItsLine_dict (Nat.le_trans hcD (by rw [List.length_cons, List.length_nil, sizeLine_eq]; omega))) ?_)
  wp_walk
  have dL := (N2 (hh.objs.size, ({ cls := .type "dict", data := .dict #[] } : Obj)) (by simp)).2
  refine h hh.objs.size oD h' _ (fr_same F2 hs dL.1 dL.2) (fun p hp => ?_) hn' lt lte
  rcases List.mem_cons.mp hp with rfl | hp
  · have z := N2 (e, ⟨.ref C, some hh.objs.size, .fields fs, sl⟩) (by simp)
    exact ⟨(hs.2 e (Nat.ne_of_lt lte)).trans z.1, z.2⟩
  · rcases List.mem_cons.mp hp with rfl | hp
    · exact ⟨hoD, dL⟩
    · have z := N2 p (by simp [hp])
      exact ⟨(hs.2 p.1 (Nat.ne_of_lt (lt p hp))).trans z.1, z.2⟩
theorem set_exc_old {name : PySem.Str} {v : Value} {fs : Array Value} {sl : Array (Option Value)} {od : Obj} {mA : PySem.Str → Option Value} {ns : List PySem.Str} {Q : Unit → Shared → Prop}
    (F : Fr h₀ L s.heap m) (X₀ : K.In h₀) (N : News h₀ L s.heap ((e, ⟨.ref C, some dx, .fields fs, sl⟩) :: (dx, od) :: rest)) (hr : ∀ p ∈ rest, p.1 ≠ dx) (hne : @Ne Nat e dx) (hA : s.heap.Ns1 dx mA)
    (hs : findIn K (.ref C) (PySem.Str.ofString "__setattr__") = some (some (.builtin "object.__setattr__"))) (hc : clsIn K C = some cd) (hm : cd.mro = [.ref C, .ref P, .type "Exception", .type "BaseException", .type "object"]) (hd : cd.hasDict = true)
    (hsub : subIn K (.ref C) (.type "object") = some true) (ha : findIn K (.ref C) name = some none)
    (h : ∀ od h' tk', Fr h₀ L h' m → News h₀ L h' ((e, ⟨.ref C, some dx, .fields fs, sl⟩) :: (dx, od) :: rest) → h'.Ns1 dx (fun y => if y = name then some v else mA y) → Q () { s with heap := h', toks := tk' })
    (hw : Within mA ns) (hsz : ns.length ≤ 100) :
    wpAny (model prog w) A (setAttr (.ref e) name v) Q E s := by
  obtain ⟨hh, g, d, t, os⟩ := s
  have F : Fr h₀ L hh m := F
  have N : News h₀ L hh ((e, ⟨.ref C, some dx, .fields fs, sl⟩) :: (dx, od) :: rest) := N
  have X : K.In hh := X₀.keeps F.keep
  have he : hh.get? e = some ⟨.ref C, some dx, .fields fs, sl⟩ := (N _ (.head _)).1
  have hdx : hh.get? dx = some od := (N (dx, od) (.tail _ (.head _))).1
  have I : PySem.W.InstAt hh e ⟨.ref C, some dx, .fields fs, sl⟩ C (some od) := ⟨he, rfl, rfl, hdx⟩
  refine set_plain (s := ⟨hh, g, d, t, os⟩) X I hs ?_
  refine osa_openE (s := ⟨hh, g, d, t + 1, os⟩) X I hc hm hsub ha fun b => ?_
  refine wpAny_bind (wpAny_pure (wpAny_bind (wpAny_bind (wpAny_loadPart he (wpAny_bind ((looks_clsIn X hc).at ?_))))))
  rw [hd]
  refine wpAny_pure (a := some dx) ?_
  show wpAny _ _ (storeInDict dx (.str name t) name v) _ _ _
  unfold storeInDict newKeyGuard
  refine wpAny_bind (wpAny_pure (wpAny_bind (wpAny_nsSet1 hA fun h' hn' hs => ?_)))
  obtain ⟨oD, esD, epD, hoD, hdD, hcD⟩ := hn'.count (Within.cons name v hw)
  refine wpAny_bind (wpAny_lookBehind hoD (by rw [hdD]; exact pastItsLine_dict (Nat.le_trans hcD (by rw [List.length_cons, sizeLine_eq]; omega))) ?_)
  wp_walk
  have dL := (N (dx, od) (.tail _ (.head _))).2
  refine h oD h' _ (fr_same F hs dL.1 dL.2) (fun p hp => ?_) hn'
  rcases List.mem_cons.mp hp with rfl | hp
  · have z := N (e, ⟨.ref C, some dx, .fields fs, sl⟩) (.head _)
    exact ⟨(hs.2 e hne).trans z.1, z.2⟩
  · rcases List.mem_cons.mp hp with rfl | hp
    · exact ⟨hoD, dL⟩
    · have z := N p (.tail _ (.tail _ hp))
      exact ⟨(hs.2 p.1 (hr p hp)).trans z.1, z.2⟩
end
end
section
open PySem PySem.W PyProof.Rows PySem.Calls
theorem fill3 : ∀ w : World, (hd.heap_1 w.params).In (default : Heap) → PySem.Challenge.rw_or0059_01.row.prog = PySem.Challenge.rw_or0059_01.row.prog := by
  k_fill
  intros; rfl
theorem post_init (w : World)
    {mean : ExcName → Option Value} {mg mb : PySem.Str → Option Value} {dp un : Nat} {gd : Option (List Code)} {cn : PySem.Str} {cs : Scope} {a : Addr} {ccd : Value} {cl : List (PySem.Str × Addr)} {outer : List Env} {A₀ : Around} {base h₀ : Heap} {L : Addr} {m : PySem.Str → Option Value} {s : Shared} {Q E : Value → Shared → Prop} {rest : List (Addr × Obj)}
    {e t0 C P : Addr} {what : PySem.Str} {k1 k2 : Tok} {i : Int} {cd : ClassData}
    {nm q : PySem.Str} {Nn : Addr} {bs bm : List Value} {hdct : Bool} {sn : List PySem.Str} {sub : List Value} {ab : Bool} {col : Option Bool} {dd : Option Addr} {q0 q1 q2 q3 q5 : Option Value} {newId : String}
    (B : Below A₀ base outer h₀) (F : Fr h₀ L s.heap m) (X : (hd.heap_1 w.params).In h₀) (N : News h₀ L s.heap ((e, ⟨.ref C, none, .fields #[.ref t0, .none, .none, .none, .bool false, .none], #[]⟩) :: rest)) (T : Top viewQ (looseW viewQ [PySem.Str.ofString "PostError"]) mean mg mb h₀) (hk : cs.kind = .function)
    (hr : ∀ p ∈ rest, p.1 ≠ e)
    (hC : (hd.heap_1 w.params).lookup C = some (excClassObj nm q C Nn bs bm hdct sn sub ab col dd q0 q1 q2 q3 q5 newId)) (hB : bm.contains (.type "Exception") = true)
    (hs : findIn (hd.heap_1 w.params) (.ref C) (PySem.Str.ofString "__setattr__") = some (some (.builtin "object.__setattr__"))) (hc : clsIn (hd.heap_1 w.params) C = some cd) (hm : cd.mro = [.ref C, .ref P, .type "Exception", .type "BaseException", .type "object"]) (hdc : cd.hasDict = true)
    (hsub : subIn (hd.heap_1 w.params) (.ref C) (.type "object") = some true) (ha1 : findIn (hd.heap_1 w.params) (.ref C) (PySem.Str.ofString "what") = some none) (ha2 : findIn (hd.heap_1 w.params) (.ref C) (PySem.Str.ofString "at") = some none)
    (hdp : dp + 1 < recursionLimit) (hun : un + 8 < cLine)
    (ret : ∀ t1 dx od h' tk', Fr h₀ L h' m → News h₀ L h' ((e, ⟨.ref C, some dx, .fields #[.ref t1, .none, .none, .none, .bool false, .none], #[]⟩) :: (dx, od) :: (t1, ({ cls := .type "tuple", data := .seq [.str what k1].toArray } : Obj)) :: rest) → (∀ p ∈ rest, p.1 < t1) → @LT.lt Nat _ e t1 → @LT.lt Nat _ e dx → @LT.lt Nat _ t1 dx → Q .none { s with heap := h', toks := tk' }) :
    wpAny (model PySem.Challenge.rw_or0059_01.row.prog w) (ktrTop dp un gd cn cs L a ccd cl outer) (call (.ref 36) [.ref e, .str what k1, .int i k2]) Q E s := by
  k_with_none
  k_with "getMethod type:Exception" => (k_here; refine' method_type (by k_asm) (by k_asm) (by first | rfl | kernel_rfl) (by decide +kernel) (by k_dflt k_is) (by k_handed) ?_)
  k_with "call builtin:Exception.__init__" => (k_here; k_dflt (refine' exc_init_K (by k_asm) (by k_asm) (by k_asm) (by assumption) (by assumption) (by assumption) ?_; intro t1' h' F' N' l1' l2'; (try k_sweep)))
  k_with "setAttr ref" => (k_here; k_dflt (first | (refine' set_exc_new (by k_asm) (by k_asm) (by k_asm) (by exact List.forall_mem_cons.mpr ⟨by k_ne, by assumption⟩) (by assumption) (by assumption) (by assumption) (by assumption) (by assumption) (by assumption) ?_; intro dx' od' h' tk' F' N' a' l1' l2'; (try k_sweep)) | (refine' set_exc_old (by k_asm) (by k_asm) (by k_asm) (by exact lt_ne (by assumption)) (by k_ne) (by assumption) (by assumption) (by assumption) (by assumption) (by assumption) (by assumption) (by assumption) ?_ (by within_ways) (by decide); intro od' h' tk' F' N' a'; (try k_sweep))))
  refine wpAny_call ?_
  k_dflt (refine' code_def ?k1 ?k2 ?k3 ?k4 ?k5 ?kA ?kF ?kK ?k6 ?k7 ?k8 ?k9 ?kB ?_ ?c2 ?c3 ?c4 ?c5; (case kA => exact rfl); (case kF => exact rfl); (case kK => assumption); (case k1 => k_asm); (case k2 => k_asm); (case k3 => k_asm); (case k4 => k_asm); (case k5 => k_asm); (case k6 => k_is); (case k7 => k_is); (case k8 => ktr_room); (case k9 => first | exact BindsTo.of_eq rfl | exact binds_K (by k_in) rfl (by k_is) rfl rfl rfl); (case c5 => decide); (case kB => exact locs rfl); (case c2 => exact rfl); (case c3 => exact rfl); (case c4 => exact rfl); k_whole; intro g' L' h' FG' F' N' B' X' T'; (try dsimp only); (try k_fold))
  k_steps
  all_goals exact ret _ _ _ _ _ (by assumption) (by assumption) (by assumption) (by assumption) (by assumption) (by
    rename_i l1 _ _ _ _ _ _ _ _ _ _ _
    first | exact (‹∀ p ∈ ((_, _) :: rest : List (Addr × Obj)), p.1 < _›) _ (List.mem_cons_self ..) | assumption)
end
section
open PySem PySem.W PyProof.Rows PySem.Calls
/-- what the written part says of an own exception class under PostError -/
structure IsFault (w : World) (C : Addr) : Prop where
  cls : ∃ nm q Nn bs hdct sn sub ab col dd q0 q1 q2 q3 q5 newId, (hd.heap_1 w.params).lookup C = some (excClassObj nm q C Nn bs [.ref 46, .type "Exception", .type "BaseException", .type "object"] hdct sn sub ab col dd q0 q1 q2 q3 q5 newId) ∧ newId = "Exception.__new__"
  set : findIn (hd.heap_1 w.params) (.ref C) (PySem.Str.ofString "__setattr__") = some (some (.builtin "object.__setattr__"))
  cd : ∃ cd, clsIn (hd.heap_1 w.params) C = some cd ∧ cd.mro = [.ref C, .ref 46, .type "Exception", .type "BaseException", .type "object"] ∧ cd.hasDict = true
  obj : subIn (hd.heap_1 w.params) (.ref C) (.type "object") = some true
  what : findIn (hd.heap_1 w.params) (.ref C) (PySem.Str.ofString "what") = some none
  at_ : findIn (hd.heap_1 w.params) (.ref C) (PySem.Str.ofString "at") = some none
  init : findIn (hd.heap_1 w.params) (.ref C) (PySem.Str.ofString "__init__") = some (some (.ref 36))
theorem fill4 : ∀ w : World, (hd.heap_1 w.params).In (default : Heap) → PySem.Challenge.rw_or0059_01.row.prog = PySem.Challenge.rw_or0059_01.row.prog := by
  k_fill
  intros; rfl
theorem fault71 (w : World) : IsFault w 71 := by
  constructor
  · exact ⟨_, _, _, _, _, _, _, _, _, _, _, _, _, _, _, _, by k_is, by rfl⟩
  · k_is
  · exact ⟨_, by k_is, by rfl, by rfl⟩
  · k_is
  · k_is
  · k_is
  · k_is
theorem fault83 (w : World) : IsFault w 83 := by
  constructor
  · exact ⟨_, _, _, _, _, _, _, _, _, _, _, _, _, _, _, _, by k_is, by rfl⟩
  · k_is
  · exact ⟨_, by k_is, by rfl, by rfl⟩
  · k_is
  · k_is
  · k_is
  · k_is
theorem fn36 (w : World) : typeIn (hd.heap_1 w.params) (.ref 36) = some (.type "function") := by k_is
/-- an own fault, made: the class called with a text and a place -/
theorem excCall_c (w : World)
    {mean : ExcName → Option Value} {mg mb : PySem.Str → Option Value} {dp un : Nat} {gd : Option (List Code)} {cn : PySem.Str} {cs : Scope} {a : Addr} {ccd : Value} {cl : List (PySem.Str × Addr)} {outer : List Env} {A₀ : Around} {base h₀ : Heap} {L : Addr} {m : PySem.Str → Option Value} {s : Shared} {Q E : Value → Shared → Prop} {news : List (Addr × Obj)}
    {C : Addr} {what : PySem.Str} {k1 k2 : Tok} {i : Int} (I : IsFault w C)
    (B : Below A₀ base outer h₀) (F : Fr h₀ L s.heap m) (X : (hd.heap_1 w.params).In h₀) (N : News h₀ L s.heap news) (T : Top viewQ (looseW viewQ [PySem.Str.ofString "PostError"]) mean mg mb h₀) (hk : cs.kind = .function)
    (hdp : dp + 2 < recursionLimit) (hun : un + 16 < cLine)
    (ret : ∀ e t1 dx h' tk', Fr h₀ L h' m → News h₀ L h' ((e, ⟨.ref C, some dx, .fields #[.ref t1, .none, .none, .none, .bool false, .none], #[]⟩) :: (t1, ({ cls := .type "tuple", data := .seq [.str what k1].toArray } : Obj)) :: news) → (∀ p ∈ news, p.1 ≠ e) → (∀ p ∈ news, p.1 ≠ t1) → @Ne Nat e t1 → Q (.ref e) { s with heap := h', toks := tk' }) :
    wpAny (model PySem.Challenge.rw_or0059_01.row.prog w) (ktrTop dp un gd cn cs L a ccd cl outer) (call (.ref C) [.str what k1, .int i k2]) Q E s := by
  obtain ⟨⟨nm, q, Nn, bs, hdct, sn, sub, ab, col, dd, q0, q1, q2, q3, q5, newId, hC, rfl⟩, hs, ⟨cd, hc, hm, hdc⟩, hsub, ha1, ha2, hi⟩ := I
  obtain ⟨hh, g, d, t, os⟩ := s
  have F : Fr h₀ L hh m := F
  have N : News h₀ L hh news := N
  have X' : (hd.heap_1 w.params).In hh := X.keeps F.keep
  refine call_exc_V (fI := 36) PySem.F.excBase_Exception (by decide) (by decide) (by decide) X' (X' _ _ hC) hi (fn36 w) (fun h' e hx => ?_) (by show 2 ≤ sizeLine; rw [sizeLine_eq]; decide)
  obtain ⟨t0, he, htn, ht⟩ := hx.there
  have F1 : Fr h₀ L h' m := F.keeps hx.keeps
  have fresh0 : ∀ b, hh.get? b = none → h₀.get? b = none := fun b hb => by
    cases hq : h₀.get? b with
    | none => rfl
    | some o' => have := F.keep b o' hq; rw [hb] at this; cases this
  have neL : ∀ b, hh.get? b = none → b ≠ L := fun b hb q => by
    obtain ⟨o, es, ep, e, _⟩ := F.ns
    rw [q, e] at hb; cases hb
  have nee : ∀ p ∈ news, p.1 ≠ e := fun p hp q => by
    have := (N p hp).1; rw [q, hx.new] at this; cases this
  have N1 : News h₀ L h' ((e, ⟨.ref C, none, .fields #[.ref t0, .none, .none, .none, .bool false, .none], #[]⟩) :: news) := fun p hp => by
    rcases List.mem_cons.mp hp with rfl | hp
    · exact ⟨he, neL e hx.new, fresh0 e hx.new⟩
    · exact ⟨hx.keeps _ _ (N p hp).1, (N p hp).2⟩
  refine post_init w (s := ⟨h', g, d, t, os⟩) (P := 46) B F1 X N1 T hk nee hC (by decide) hs hc hm hdc hsub ha1 ha2 ?_ ?_ ?_
  · simp only [depth_under_make]
    exact hdp
  · show un + 1 + 8 < cLine
    omega
  · intro t1 dx od h'' tk' F2 N2 l1 l2 l3 l4
    refine ⟨rfl, ret e t1 dx h'' tk' F2 (fun p hp => N2 p ?_) nee (fun p hp => Nat.ne_of_lt (l1 p hp)) (Nat.ne_of_lt l2)⟩
    simp only [List.mem_cons] at hp ⊢
    rcases hp with hp | hp | hp
    · exact .inl hp
    · exact .inr (.inr (.inl hp))
    · exact .inr (.inr (.inr hp))
end
section
open PySem PySem.W PyProof.Rows PySem.Calls
section
variable {M : Model} {A : Around} {E : Value → Shared → Prop} {s' : Shared} {base g : Heap} {outer : List Env} {L a e t C : Addr} {m : PySem.Str → Option Value} {name : PySem.Str} {scope : Scope} {cd : Value} {Q : Unit → Shared → Prop} {news : List (Addr × Obj)} {ed : Option Addr} {sl : Array (Option Value)} {vs : List Value}
/-- the first frame that an own fault leaves: it stands on the ledger -/
theorem leave_raiseL (K : Below A base outer g) (F : Fr g L s'.heap m)
    (N : News g L s'.heap ((e, ⟨.ref C, ed, .fields #[.ref t, .none, .none, .none, .bool false, .none], sl⟩) :: (t, ({ cls := .type "tuple", data := .seq vs.toArray } : Obj)) :: news))
    (h1 : ∀ p ∈ news, p.1 ≠ e) (h2 : ∀ p ∈ news, p.1 ≠ t) (hne : @Ne Nat e t)
    (hQ : ∀ h', RaisedS base g outer e (.ref C) t vs news h' → g.UpToSlots h' → Q () { s' with heap := h' }) (hk : scope.kind = .function := by rfl) :
    wpAny M (A.deeper (envOf name scope L a cd)) (leaving (envOf name scope L a cd) (.ref e)) Q E s' := by
  have K' := K.push (name := name) (a := a) (cd := cd) F hk
  have he := (N _ (.head _)).1
  have hge : g.get? e = none := (N _ (.head _)).2.2
  have htN := N (t, ({ cls := .type "tuple", data := .seq vs.toArray } : Obj)) (.tail _ (.head _))
  have hgt : g.get? t = none := htN.2.2
  have notFr : ∀ b, g.get? b = none → b ≠ L → b ∉ (envOf name scope L a cd :: outer).filterMap (·.frame) := fun b hb hL hm => by
    obtain ⟨env, hen, hf⟩ := List.mem_filterMap.mp hm
    rcases List.mem_cons.mp hen with rfl | hen
    · exact hL (Option.some.inj hf).symm
    · obtain ⟨o, ho, _⟩ := (K.frames.mem (List.mem_filterMap.mpr ⟨env, hen, hf⟩)).2
      rw [hb] at ho; cases ho
  have hin : ∀ env ∈ (envOf name scope L a cd :: outer), ∀ b, env.frame = some b → b ∈ e :: t :: (envOf name scope L a cd :: outer).filterMap (·.frame) := fun env he b hb => .tail _ (.tail _ (List.mem_filterMap.mpr ⟨env, he, hb⟩))
  have baseNo : ∀ b, g.get? b = none → base.get? b = none := fun b hb => fresh_of_stays K.stays hb
  have st : base.StaysIn (hideAll s'.heap (e :: t :: (envOf name scope L a cd :: outer).filterMap (·.frame))) := fun b o q => hideAll_get _ (K'.stays b o q) fun hm => by
    rcases List.mem_cons.mp hm with rfl | hm
    · rw [baseNo _ hge] at q; cases q
    · rcases List.mem_cons.mp hm with rfl | hm
      · rw [baseNo _ hgt] at q; cases q
      · rw [(K'.frames.mem hm).1] at q; cases q
  have sg : ∀ b o, g.get? b = some o → b ∉ outer.filterMap (·.frame) → (hideAll s'.heap (e :: t :: (envOf name scope L a cd :: outer).filterMap (·.frame))).get? b = some o := fun b o q nm => hideAll_get _ (F.keep b o q) fun hm => by
    rcases List.mem_cons.mp hm with rfl | hm
    · rw [hge] at q; cases q
    · rcases List.mem_cons.mp hm with rfl | hm
      · rw [hgt] at q; cases q
      · rcases kts_mem hm with z | z
        · rw [z, kts_self F] at q
          cases q
        · exact nm z
  have hl : ∀ q ∈ news, (hideAll s'.heap (e :: t :: (envOf name scope L a cd :: outer).filterMap (·.frame))).get? q.1 = some q.2 ∧ g.get? q.1 = none ∧ base.get? q.1 = none := fun q hq => by
    have z := N q (.tail _ (.tail _ hq))
    refine ⟨hideAll_get _ z.1 fun hm => ?_, z.2.2, baseNo _ z.2.2⟩
    rcases List.mem_cons.mp hm with hm | hm
    · exact h1 q hq hm
    · rcases List.mem_cons.mp hm with hm | hm
      · exact h2 q hq hm
      · exact notFr q.1 z.2.2 z.2.1 hm
  have hen : (hideAll s'.heap (e :: t :: (envOf name scope L a cd :: outer).filterMap (·.frame))).get? e = none := hideAll_none _ (.head _)
  have htn : (hideAll s'.heap (e :: t :: (envOf name scope L a cd :: outer).filterMap (·.frame))).get? t = none := hideAll_none _ (.tail _ (.head _))
  refine wpAny_leaving_firstW (base := hideAll s'.heap (e :: t :: (envOf name scope L a cd :: outer).filterMap (·.frame))) (a0 := .ref t) K'.stack (funFrames_hide K'.frames hin) rfl he (fun b o hb => of_hideAll _ hb) hen rfl rfl rfl fun h' hL => ?_
  obtain ⟨k1, ⟨_, _, k2⟩, k3, k4⟩ := hL
  refine hQ h' ⟨⟨_, st, sg, hl, ⟨k1, hen, k2, k3⟩, htn⟩, Heap.TupAt.of_slots ⟨_, _, htN.1, rfl, rfl⟩ k4⟩ ((Heap.UpToSlots.of_keeps F.keep).trans k4)
end
/-- where a raise has its value -/
def RaiseEnd (M : Model) (A : Around) (E : Value → Shared → Prop) (v : Value) (s : Shared) : Prop :=
  ∃ e C nm q Nn bs bm hdct sn sub ab col dd q0 q1 q2 q3 q5 newId ed fs sl, v = .ref e ∧ s.heap.get? C = some (excClassObj nm q C Nn bs bm hdct sn sub ab col dd q0 q1 q2 q3 q5 newId) ∧ bm.contains (.type "BaseException") = true ∧
    s.heap.get? e = some ⟨.ref C, ed, .fields fs, sl⟩ ∧ fs[1]? = some .none ∧ E (.ref e) s
theorem raise_any {M : Model} {A : Around} {E : Value → Shared → Prop} {s : Shared} {ex : Expr} {pos : Pos} {env : Env} {Q : Flow → Shared → Prop} (hh : A.handled = none)
    (h : wpAny M A (eval ex env) (RaiseEnd M A E) E s) : wpAny M A (exec (.Raise (some ex) none pos) env) Q E s := by
  rw [arm_exec_Raise]
  refine wpAny_bind (wpAny_standAt ?_)
  simp only [evalOpt, Option.map]
  unfold raiseStmt
  refine wpAny_bind (wpAny_mono (wpAny_bind (wpAny_mono h (fun v s₁ h₁ => wpAny_bind (wpAny_standAt (wpAny_pure h₁))) fun _ _ x => x)) (fun v s₁ h₁ => ?_) fun _ _ x => x)
  obtain ⟨e, C, nm, q, Nn, bs, bm, hdct, sn, sub, ab, col, dd, q0, q1, q2, q3, q5, newId, ed, fs, sl, rfl, hC, hbm, he, h1, hE⟩ := h₁
  have hcB : (Value.ref C :: bm).contains (.type "BaseException") = true := by rw [List.contains_cons, hbm, Bool.or_true]
  obtain ⟨hp, g, d, tk, os⟩ := s₁
  repeat (first | with_reducible refine wpAny_loadPart_at he ?_ | with_reducible refine wpAny_loadPart_at hC ?_ | (with_reducible refine wpAny_isSubtype_exc hC ?_; rw [hcB]) | wp_step)
  rw [h1]
  refine wpAny_pure ?_
  rw [if_neg (by simp)]
  refine wpAny_pure ?_
  exact wpAny_raiseNew_none hh hE
theorem raiseEnd_K {w : World} {M : Model} {A : Around} {E : Value → Shared → Prop} {s : Shared} {h₀ : Heap} {L : Addr} {m : PySem.Str → Option Value} {e t C : Addr} {ed : Option Addr} {sl : Array (Option Value)} {rest : List (Addr × Obj)}
    (F : Fr h₀ L s.heap m) (X : (hd.heap_1 w.params).In h₀) (N : News h₀ L s.heap ((e, ⟨.ref C, ed, .fields #[.ref t, .none, .none, .none, .bool false, .none], sl⟩) :: rest)) (I : IsFault w C) (hE : E (.ref e) s) : RaiseEnd M A E (.ref e) s := by
  obtain ⟨⟨nm, q, Nn, bs, hdct, sn, sub, ab, col, dd, q0, q1, q2, q3, q5, newId, hC, _⟩, _⟩ := I
  exact ⟨e, C, nm, q, Nn, bs, _, hdct, sn, sub, ab, col, dd, q0, q1, q2, q3, q5, newId, ed, _, sl, rfl, (X.keeps F.keep) _ _ hC, by decide, (N _ (.head _)).1, rfl, hE⟩
end
section
open PySem PySem.W PyProof.Rows PySem.Calls
theorem dict_ne {w : World} {k1 k2 : Tok} {data : Array UInt8} {t1 : Tok} {i : Int} {t : Tok} {da : Addr} {sl : Array (Option Value)} : wireD w k1 k2 data t1 i t ≠ wireO da sl := by
  intro h
  injection h with h1
  cases h1
theorem ret_W {h₀ h' : Heap} {L da wa : Addr} {D : Int → Tok → Obj} {sl : Array (Option Value)} {m : PySem.Str → Option Value} {rest : List (Addr × Obj)} {s : Shared} {Q : Value → Shared → Prop} {R : Value → Int → Prop} {tk' : Nat} {v : Value} {j : Int} {t2 : Tok}
    (ret : ∀ v j t2' h' tk', R v j → Fr h₀ L h' m → News h₀ L h' ((da, D j t2') :: (wa, wireO da sl) :: rest) → Q v { s with heap := h', toks := tk' }) (F : Fr h₀ L h' m) (N : News h₀ L h' ((da, D j t2) :: (wa, wireO da sl) :: rest)) (r : R v j) : Q v { s with heap := h', toks := tk' } := ret v j t2 h' tk' r F N
def peekZ (ks : List Int) (i : Int) : Int := if i < ks.length then ks.getD i.toNat 0 else -1
theorem peek_c (w : World) {wa da : Addr} {sl : Array (Option Value)} {k1 k2 t1 : Nat} {data : Array UInt8} {ks : List Int} {i : Int} (hks : KBw.bInts data = ks) (hlen : ks.length ≤ 1000) (h0 : 0 ≤ i) (h1 : i ≤ ks.length) :
    GivesW w 225 1 wa da (wireD w k1 k2 data t1) sl i [] (fun v j => (∃ t, v = .int (peekZ ks i) t) ∧ j = i) (fun _ => False) := by
  k_with_none
  refine givesW_start (fun _ => dict_ne) ?_
  intro mean mg mb dp un gd cn cs a ccd cl outer A₀ base h₀ L m s Q E rest t2 B F X N T hk hr hne hdp hun ret exc
  refine wpAny_call ?_
  k_dflt ktr_enter
  k_steps
  · exact ret_W ret (by assumption) (by assumption) ⟨⟨_, by unfold peekZ; rw [if_pos (by assumption)]⟩, rfl⟩
  · exact ret_W ret (by assumption) (by assumption) ⟨⟨_, by unfold peekZ; rw [if_neg (by assumption)]⟩, rfl⟩
theorem clip_mid {n : Nat} {i : Int} (h0 : 0 ≤ i) (h1 : i ≤ n) : clipAt n i = i.toNat := by
  have : i = ((i.toNat : Nat) : Int) := by omega
  rw [this, clipAt_nat]
  omega
theorem clip_any {n : Nat} {i : Int} (h0 : 0 ≤ i) : clipAt n i = min i.toNat n := by
  have : i = ((i.toNat : Nat) : Int) := by omega
  rw [this, clipAt_nat]
  omega
theorem skip_slice {ks : List Int} {i : Int} {n : Nat} (h0 : 0 ≤ i) (h1 : i ≤ ks.length) : (ks.drop (clipAt ks.length i)).take (clipAt ks.length (i + n) - clipAt ks.length i) = (ks.drop i.toNat).take n := by
  rw [clip_mid h0 h1, clip_any (by omega)]
  by_cases h : (i + n).toNat ≤ ks.length
  · rw [Nat.min_eq_left h]
    congr 1
    omega
  · rw [Nat.min_eq_right (by omega), List.take_of_length_le (by rw [List.length_drop]; omega), List.take_of_length_le (by rw [List.length_drop]; omega)]
theorem ints_inj {b c : Array UInt8} (h : KBw.bInts b = KBw.bInts c) : b = c := by
  have : b.toList = c.toList := by
    unfold KBw.bInts at h
    exact List.map_inj_right (fun x y e => by
      have : x.toNat = y.toNat := by omega
      exact UInt8.toNat_inj.mp this) |>.mp h
  exact Array.toList_inj.mp this
def skipB (ks : List Int) (i : Int) (os : List Int) : Bool := (ks.drop i.toNat).take os.length == os
theorem skip_c (w : World) {wa da : Addr} {sl : Array (Option Value)} {k1 k2 t1 : Nat} {data : Array UInt8} {ks : List Int} {i : Int} {ob : Array UInt8} {tb : Tok} {os : List Int} (hks : KBw.bInts data = ks) (hlen : ks.length ≤ 1000) (h0 : 0 ≤ i) (h1 : i ≤ ks.length) (hos : KBw.bInts ob = os) (hol : os.length ≤ 1000) :
    GivesW w 232 1 wa da (wireD w k1 k2 data t1) sl i [.bytes ob tb] (fun v j => v = .bool (skipB ks i os) ∧ j = if skipB ks i os = true then i + os.length else i) (fun _ => False) := by
  k_with_none
  refine givesW_start (fun _ => dict_ne) ?_
  intro mean mg mb dp un gd cn cs a ccd cl outer A₀ base h₀ L m s Q E rest t2 B F X N T hk hr hne hdp hun ret exc
  refine wpAny_call ?_
  k_dflt ktr_enter
  k_steps
  · refine ret_W ret (by assumption) (by assumption) (j := i) ?_
    have e : skipB ks i os = false := by
      rename KBw.bInts (KBy.picked _ _ _) = _ => kbc
      rename (_ != _) = true => ne
      unfold skipB
      rw [skip_slice h0 h1] at kbc
      rw [Bool.eq_false_iff]
      intro q
      rw [beq_iff_eq] at q
      rw [ints_inj (kbc.trans (q.trans hos.symm))] at ne
      simp at ne
    rw [e]
    exact ⟨rfl, by simp⟩
  · refine ret_W ret (by assumption) (by assumption) (j := i + os.length) ?_
    have e : skipB ks i os = true := by
      rename KBw.bInts (KBy.picked _ _ _) = _ => kbc
      rename (_ != _) = false => ne
      unfold skipB
      rw [skip_slice h0 h1] at kbc
      simp only [bne_eq_false_iff_eq] at ne
      exact beq_iff_eq.mpr (kbc.symm.trans ((congrArg KBw.bInts (Array.toList_inj.mp ne)).trans hos))
    rw [e]
    exact ⟨rfl, by simp⟩
end
section
open PySem PySem.W PyProof.Rows PySem.Calls
theorem GivesW.use {w : World} {f : Addr} {dk : Nat} {wa da : Addr} {D : Int → Tok → Obj} {sl : Array (Option Value)} {i : Int} {xs : List Value} {R : Value → Int → Prop} {XC : Addr → Prop} (G : GivesW w f dk wa da D sl i xs R XC)
    {mean : ExcName → Option Value} {mg mb : PySem.Str → Option Value} {dp un : Nat} {gd : Option (List Code)} {cn : PySem.Str} {cs : Scope} {a : Addr} {ccd : Value} {cl : List (PySem.Str × Addr)} {outer : List Env} {A₀ : Around} {base h₀ : Heap} {L : Addr} {m : PySem.Str → Option Value} {s : Shared} {Q E : Value → Shared → Prop} {news : List (Addr × Obj)} {upd : Obj → List (Addr × Obj)} {t2 : Tok}
    (B : Below A₀ base outer h₀) (F : Fr h₀ L s.heap m) (X : (hd.heap_1 w.params).In h₀) (N : News h₀ L s.heap news) (T : Top viewQ (looseW viewQ [PySem.Str.ofString "PostError"]) mean mg mb h₀) (hk : cs.kind = .function)
    (hm : (wa, wireO da sl) ∈ news) (U : ∀ o', Upd da (D i t2) o' news (upd o'))
    (hdp : dp + dk < recursionLimit) (hun : un + 8 * dk < cLine)
    (ret : ∀ v j t2' h' tk', R v j → Fr h₀ L h' m → News h₀ L h' (upd (D j t2')) → Q v { s with heap := h', toks := tk' })
    (exc : ∀ C e t vs o' g₂ h' tk', XC C → Fr h₀ L g₂ m → RaisedS base g₂ (envX cn cs L a ccd cl :: outer) e (.ref C) t vs (upd o') h' → g₂.UpToSlots h' → E (.ref e) { s with heap := h', toks := tk' }) :
    wpAny (model PySem.Challenge.rw_or0059_01.row.prog w) (ktrTop dp un gd cn cs L a ccd cl outer) (call (.ref f) (.ref wa :: xs)) Q E s :=
  G mean mg mb dp un gd cn cs a ccd cl outer A₀ base h₀ L m s Q E news upd t2 B F X N T hk U hm hdp hun ret exc
theorem GivesW.use2 {w : World} {f : Addr} {dk : Nat} {wa da : Addr} {D : Int → Tok → Obj} {sl : Array (Option Value)} {i : Int} {xs : List Value} {R : Value → Int → Prop} {XC : Addr → Prop}
    {mean : ExcName → Option Value} {mg mb : PySem.Str → Option Value} {dp un : Nat} {gd : Option (List Code)} {cn : PySem.Str} {cs : Scope} {a : Addr} {ccd : Value} {cl : List (PySem.Str × Addr)} {outer : List Env} {A₀ : Around} {base h₀ : Heap} {L : Addr} {m : PySem.Str → Option Value} {s : Shared} {Q E : Value → Shared → Prop} {news : List (Addr × Obj)} {upd : Obj → List (Addr × Obj)} {t2 : Tok}
    (B : Below A₀ base outer h₀) (F : Fr h₀ L s.heap m) (X : (hd.heap_1 w.params).In h₀) (N : News h₀ L s.heap news) (T : Top viewQ (looseW viewQ [PySem.Str.ofString "PostError"]) mean mg mb h₀) (hk : cs.kind = .function)
    (hm : (wa, wireO da sl) ∈ news) (U : ∀ o', Upd da (D i t2) o' news (upd o'))
    (hdp : dp + dk < recursionLimit) (hun : un + 8 * dk < cLine) (G : GivesW w f dk wa da D sl i xs R XC)
    (ret : ∀ v j t2' h' tk', R v j → Fr h₀ L h' m → News h₀ L h' (upd (D j t2')) → Q v { s with heap := h', toks := tk' })
    (exc : ∀ C e t vs o' g₂ h' tk', XC C → Fr h₀ L g₂ m → RaisedS base g₂ (envX cn cs L a ccd cl :: outer) e (.ref C) t vs (upd o') h' → g₂.UpToSlots h' → E (.ref e) { s with heap := h', toks := tk' }) :
    wpAny (model PySem.Challenge.rw_or0059_01.row.prog w) (ktrTop dp un gd cn cs L a ccd cl outer) (call (.ref f) (.ref wa :: xs)) Q E s :=
  G mean mg mb dp un gd cn cs a ccd cl outer A₀ base h₀ L m s Q E news upd t2 B F X N T hk U hm hdp hun ret exc
theorem exc_W {base h₀ h' g₂ : Heap} {L da wa e t : Addr} {sl : Array (Option Value)} {m : PySem.Str → Option Value} {rest : List (Addr × Obj)} {s : Shared} {E : Value → Shared → Prop} {XC : Addr → Prop} {l : List Env} {tk' : Nat} {C : Addr} {vs : List Value} {o' : Obj}
    (exc : ∀ C e t vs o' g₂ h' tk', XC C → Fr h₀ L g₂ m → RaisedS base g₂ l e (.ref C) t vs ((da, o') :: (wa, wireO da sl) :: rest) h' → g₂.UpToSlots h' → E (.ref e) { s with heap := h', toks := tk' })
    (F : Fr h₀ L g₂ m) (S : RaisedS base g₂ l e (.ref C) t vs ((da, o') :: (wa, wireO da sl) :: rest) h') (U : g₂.UpToSlots h') (x : XC C) : E (.ref e) { s with heap := h', toks := tk' } := exc C e t vs o' g₂ h' tk' x F S U
theorem no_exc {C : Addr} {P : Prop} (h : (fun _ : Addr => False) C) : P := h.elim
theorem need_c (w : World) {wa da : Addr} {sl : Array (Option Value)} {k1 k2 t1 : Nat} {data : Array UInt8} {ks : List Int} {i : Int} {ob : Array UInt8} {tb tw : Tok} {os : List Int} {what : PySem.Str} (hks : KBw.bInts data = ks) (hlen : ks.length ≤ 1000) (h0 : 0 ≤ i) (h1 : i ≤ ks.length) (hos : KBw.bInts ob = os) (hol : os.length ≤ 1000) :
    GivesW w 239 5 wa da (wireD w k1 k2 data t1) sl i [.bytes ob tb, .str what tw] (fun v j => v = .none ∧ skipB ks i os = true ∧ j = i + os.length) (fun C => C = 71 ∧ skipB ks i os = false) := by
  k_with_none
  k_with "call ref" => (k_here; (with_reducible show wpAny _ _ (call (Value.ref 232) _) _ _ _); k_dflt (refine' GivesW.use2 (D := wireD w _ _ _ _) (by k_asm) (by k_asm) (by k_asm) (by k_asm) (by k_asm) (by first | exact rfl | assumption) (by k_mem) (by (intro o9; k_upd)) (by ktr_room) (by ktr_units) (skip_c _ (by assumption) (by first | assumption | omega) (by first | assumption | omega) (by first | assumption | omega) (by first | assumption | exact rfl) (by first | assumption | decide)) ?_ (by (intro _ _ _ _ _ _ _ _ x9; exact False.elim x9)); k_whole; intro v9 j9 t9 h9 tk9 r9 F9 N9; obtain ⟨e9, e9'⟩ := r9; subst e9; subst e9'; (try dsimp only at N9); (try k_sweep); (try dsimp only); (try k_fold)))
  k_with "call ref" => (k_here; (with_reducible show wpAny _ _ (call (Value.ref 71) _) _ _ _); k_dflt (refine' excCall_c _ (fault71 _) (by k_asm) (by k_asm) (by k_asm) (by k_asm) (by k_asm) (by first | exact rfl | assumption) (by ktr_room) (by ktr_units) ?_; k_whole; intro e9 t9 d9 h9 tk9 F9 N9 n1 n2 n3; (try k_sweep); (try dsimp only); (try k_fold)))
  k_with "exec Raise some none" => (k_here; refine raise_any rfl ?_)
  k_with "RaiseEnd" => (k_here; refine' raiseEnd_K (by k_asm) (by k_asm) (by k_asm) (by first | exact fault71 _ | exact fault83 _) ?_)
  k_with "leaving ref" => (k_here; k_dflt (first | (refine' leave_raiseL (by k_asm) (by k_asm) (by k_asm) (by assumption) (by assumption) (by assumption) ?_; intro h9 S9 U9) | (refine' leave_onS (by assumption) (by assumption) (by assumption) (by assumption) ?_; intro h9 S9 S9' U9)))
  refine givesW_start (fun _ => dict_ne) ?_
  intro mean mg mb dp un gd cn cs a ccd cl outer A₀ base h₀ L m s Q E rest t2 B F X N T hk hr hne hdp hun ret exc
  refine wpAny_call ?_
  k_dflt ktr_enter
  k_steps
  · refine ret_W ret (by assumption) (by assumption) ⟨rfl, by assumption, ?_⟩
    rw [if_pos (by assumption)]
  · exact exc_W exc (by assumption) (by assumption) (by assumption) ⟨rfl, by assumption⟩
end
section
open PySem PySem.W PyProof.Rows PySem.Calls
theorem space_c (w : World) {wa da : Addr} {sl : Array (Option Value)} {k1 k2 t1 : Nat} {data : Array UInt8} {ks : List Int} {i : Int} (hks : KBw.bInts data = ks) (hlen : ks.length ≤ 1000) (h0 : 0 ≤ i) (h1 : i ≤ ks.length) :
    GivesW w 246 6 wa da (wireD w k1 k2 data t1) sl i [] (fun v j => v = .none ∧ skipB ks i [32] = true ∧ j = i + 1) (fun C => C = 71 ∧ skipB ks i [32] = false) := by
  k_with_none
  k_with "compareOp NotIn int bytes" => (k_here; (with_reducible show wpAny _ _ (compareOp CmpOp.NotIn (Value.int _ _) (Value.bytes _ _)) _ _ _); refine notin_bytes ?_ ?_ rfl ?_; (first | assumption | omega); (first | assumption | omega))
  k_with "compareOp In int bytes" => (k_here; (with_reducible show wpAny _ _ (compareOp CmpOp.In (Value.int _ _) (Value.bytes _ _)) _ _ _); refine in_bytes ?_ ?_ rfl ?_; (first | assumption | omega); (first | assumption | omega))
  k_with "call ref" => (k_here; (with_reducible show wpAny _ _ (call (Value.ref 71) _) _ _ _); k_dflt (refine' excCall_c _ (fault71 _) (by k_asm) (by k_asm) (by k_asm) (by k_asm) (by k_asm) (by first | exact rfl | assumption) (by ktr_room) (by ktr_units) ?_; k_whole; intro e9 t9 d9 h9 tk9 F9 N9 n1 n2 n3; (try k_sweep); (try dsimp only); (try k_fold)))
  k_with "call ref" => (k_here; (with_reducible show wpAny _ _ (call (Value.ref 83) _) _ _ _); k_dflt (refine' excCall_c _ (fault83 _) (by k_asm) (by k_asm) (by k_asm) (by k_asm) (by k_asm) (by first | exact rfl | assumption) (by ktr_room) (by ktr_units) ?_; k_whole; intro e9 t9 d9 h9 tk9 F9 N9 n1 n2 n3; (try k_sweep); (try dsimp only); (try k_fold)))
  k_with "exec Raise some none" => (k_here; refine raise_any rfl ?_)
  k_with "RaiseEnd" => (k_here; refine' raiseEnd_K (by k_asm) (by k_asm) (by k_asm) (by first | exact fault71 _ | exact fault83 _) ?_)
  k_with "leaving ref" => (k_here; k_dflt (first | (refine' leave_raiseL (by k_asm) (by k_asm) (by k_asm) (by assumption) (by assumption) (by assumption) ?_; intro h9 S9 U9) | (refine' leave_onS (by assumption) (by assumption) (by assumption) (by assumption) ?_; intro h9 S9 S9' U9)))
  k_with "call ref" => (k_here; (with_reducible show wpAny _ _ (call (Value.ref 239) _) _ _ _); k_dflt (refine' GivesW.use2 (D := wireD w _ _ _ _) (by k_asm) (by k_asm) (by k_asm) (by k_asm) (by k_asm) (by first | exact rfl | assumption) (by k_mem) (by (intro o9; k_upd)) (by ktr_room) (by ktr_units) (need_c _ (by assumption) (by first | assumption | omega) (by first | assumption | omega) (by first | assumption | omega) (by first | assumption | exact rfl) (by first | assumption | decide)) ?_ ?ke; intro v9 j9 t9 h9 tk9 r9 F9 N9; obtain ⟨e9, b9, e9'⟩ := r9; subst e9; subst e9'; (try dsimp only at N9); (try k_sweep); (try dsimp only); (try k_fold); rotate_left; intro C9 e9 t9 vs9 o9 g9 h9 tk9 x9 G9 S9 U9; obtain ⟨e9', b9⟩ := x9; subst e9'; (try dsimp only at S9); (try dsimp only); rotate_right))
  refine givesW_start (fun _ => dict_ne) ?_
  intro mean mg mb dp un gd cn cs a ccd cl outer A₀ base h₀ L m s Q E rest t2 B F X N T hk hr hne hdp hun ret exc
  refine wpAny_call ?_
  k_dflt ktr_enter
  k_steps
  · exact ret_W ret (by assumption) (by assumption) ⟨rfl, by assumption, rfl⟩
  · exact exc_W exc (by assumption) (by assumption) (by assumption) ⟨rfl, by assumption⟩
def numZ (os : List Int) : Int := os.foldl (fun n c => n * 10 + c - 48) 0
theorem numfig_c (w : World) {ob : Array UInt8} {tb : Tok} {os : List Int} (hos : KBw.bInts ob = os) (hol : os.length ≤ 1000) :
    GivesP w 196 1 [.bytes ob tb] (fun v => ∃ t, v = .int (numZ os) t) := by
  k_with_none
  k_with "compareOp NotIn int bytes" => (k_here; (with_reducible show wpAny _ _ (compareOp CmpOp.NotIn (Value.int _ _) (Value.bytes _ _)) _ _ _); refine notin_bytes ?_ ?_ rfl ?_; (first | assumption | omega); (first | assumption | omega))
  k_with "compareOp In int bytes" => (k_here; (with_reducible show wpAny _ _ (compareOp CmpOp.In (Value.int _ _) (Value.bytes _ _)) _ _ _); refine in_bytes ?_ ?_ rfl ?_; (first | assumption | omega); (first | assumption | omega))
  k_with "call ref" => (k_here; (with_reducible show wpAny _ _ (call (Value.ref 71) _) _ _ _); k_dflt (refine' excCall_c _ (fault71 _) (by k_asm) (by k_asm) (by k_asm) (by k_asm) (by k_asm) (by first | exact rfl | assumption) (by ktr_room) (by ktr_units) ?_; k_whole; intro e9 t9 d9 h9 tk9 F9 N9 n1 n2 n3; (try k_sweep); (try dsimp only); (try k_fold)))
  k_with "call ref" => (k_here; (with_reducible show wpAny _ _ (call (Value.ref 83) _) _ _ _); k_dflt (refine' excCall_c _ (fault83 _) (by k_asm) (by k_asm) (by k_asm) (by k_asm) (by k_asm) (by first | exact rfl | assumption) (by ktr_room) (by ktr_units) ?_; k_whole; intro e9 t9 d9 h9 tk9 F9 N9 n1 n2 n3; (try k_sweep); (try dsimp only); (try k_fold)))
  k_with "exec Raise some none" => (k_here; refine raise_any rfl ?_)
  k_with "RaiseEnd" => (k_here; refine' raiseEnd_K (by k_asm) (by k_asm) (by k_asm) (by first | exact fault71 _ | exact fault83 _) ?_)
  k_with "leaving ref" => (k_here; k_dflt (first | (refine' leave_raiseL (by k_asm) (by k_asm) (by k_asm) (by assumption) (by assumption) (by assumption) ?_; intro h9 S9 U9) | (refine' leave_onS (by assumption) (by assumption) (by assumption) (by assumption) ?_; intro h9 S9 S9' U9)))
  k_with "call ref" => (k_here; (with_reducible show wpAny _ _ (call (Value.ref 239) _) _ _ _); k_dflt (refine' GivesW.use2 (D := wireD w _ _ _ _) (by k_asm) (by k_asm) (by k_asm) (by k_asm) (by k_asm) (by first | exact rfl | assumption) (by k_mem) (by (intro o9; k_upd)) (by ktr_room) (by ktr_units) (need_c _ (by assumption) (by first | assumption | omega) (by first | assumption | omega) (by first | assumption | omega) (by first | assumption | exact rfl) (by first | assumption | decide)) ?_ ?ke; intro v9 j9 t9 h9 tk9 r9 F9 N9; obtain ⟨e9, b9, e9'⟩ := r9; subst e9; subst e9'; (try dsimp only at N9); (try k_sweep); (try dsimp only); (try k_fold); rotate_left; intro C9 e9 t9 vs9 o9 g9 h9 tk9 x9 G9 S9 U9; obtain ⟨e9', b9⟩ := x9; subst e9'; (try dsimp only at S9); (try dsimp only); rotate_right))
  intro mean mg mb dp un gd cn cs a ccd cl outer A₀ base h₀ L m s Q E news B F X N T hk hdp hun ret
  refine wpAny_call ?_
  k_dflt ktr_enter
  k_steps
  exact ret _ _ _ ⟨_, rfl⟩ (by assumption) (by assumption)
end
section
open PySem PySem.W PyProof.Rows PySem.Calls
theorem ksw_plain {h₀ h : Heap} {L : Addr} {u m : PySem.Str → Option Value} (F : Fr h₀ L h (kstB (fun z => if ([] : List PySem.Str).contains z then u z else m z) [])) : Fr h₀ L h m := F
def runEnd (p : Int → Bool) (ks : List Int) (i : Int) : Int := i + ((ks.drop i.toNat).takeWhile p).length
theorem drop_cons {ks : List Int} {i : Int} (h0 : 0 ≤ i) (h1 : i < ks.length) : ks.drop i.toNat = ks.getD i.toNat 0 :: ks.drop (i + 1).toNat := by
  have e : (i + 1).toNat = i.toNat + 1 := by omega
  have hl : i.toNat < ks.length := by omega
  rw [e, List.drop_eq_getElem_cons hl]
  simp [List.getD, hl]
theorem runEnd_step {p : Int → Bool} {ks : List Int} {i : Int} (h0 : 0 ≤ i) (h1 : i < ks.length) (hp : p (ks.getD i.toNat 0) = true) : runEnd p ks (i + 1) = runEnd p ks i := by
  unfold runEnd
  rw [drop_cons h0 h1, List.takeWhile_cons, if_pos hp, List.length_cons]
  push_cast
  omega
theorem runEnd_stop {p : Int → Bool} {ks : List Int} {i : Int} (h0 : 0 ≤ i) (h1 : i < ks.length) (hp : p (ks.getD i.toNat 0) = false) : runEnd p ks i = i := by
  unfold runEnd
  rw [drop_cons h0 h1, List.takeWhile_cons, hp]
  simp
theorem runEnd_end {p : Int → Bool} {ks : List Int} {i : Int} (h0 : 0 ≤ i) (h1 : i ≤ ks.length) (h2 : ¬ i < ks.length) : runEnd p ks i = i := by
  unfold runEnd
  rw [List.drop_eq_nil_of_le (by omega)]
  simp
def runOf (p : Int → Bool) (ks : List Int) (i : Int) : List Int := (ks.drop i.toNat).takeWhile p
theorem take_takeWhile {p : Int → Bool} : ∀ l : List Int, l.take (l.takeWhile p).length = l.takeWhile p
  | [] => rfl
  | a :: l => by
    rw [List.takeWhile_cons]
    split
    · rw [List.length_cons, List.take_succ_cons, take_takeWhile l]
    · rfl
theorem run_slice {p : Int → Bool} {ks : List Int} {i j : Int} (h0 : 0 ≤ i) (h1 : i ≤ ks.length) (hj : j = runEnd p ks i) (hj1 : j ≤ ks.length) : (ks.drop (clipAt ks.length i)).take (clipAt ks.length j - clipAt ks.length i) = runOf p ks i := by
  have hij : i ≤ j := by rw [hj]; unfold runEnd; omega
  rw [clip_mid h0 h1, clip_mid (by omega) hj1]
  have : j.toNat - i.toNat = ((ks.drop i.toNat).takeWhile p).length := by rw [hj]; unfold runEnd; omega
  rw [this, take_takeWhile]
  rfl
theorem is_astr_x (w : World) (c : Int) (t : Tok) (h0 : 0 ≤ c) (h1 : c < 256) : GivesP w 175 3 [.int c t] (fun v => ∃ b, v = .bool b ∧ b = astrB c) := by
  intro mean mg mb dp un gd cn cs a ccd cl outer A₀ base h₀ L m s Q E news B F X N T hk hdp hun ret
  exact is_astr_c w c t h0 h1 mean mg mb dp un gd cn cs a ccd cl outer A₀ base h₀ L m s Q E news B F X N T hk hdp hun (fun v h' tk' r => ret v h' tk' ⟨_, r, rfl⟩)
theorem run_out {p : Int → Bool} {ks : List Int} {i j : Int} {b : Array UInt8} {t : Tok} (h0 : 0 ≤ i) (h1 : i ≤ ks.length) (hj1 : j ≤ ks.length) (hj2 : runEnd p ks j = runEnd p ks i) (hs : runEnd p ks j = j) (kb : KBw.bInts b = List.take (clipAt ks.length j - clipAt ks.length i) (List.drop (clipAt ks.length i) ks)) :
    (∃ b' t', Value.bytes b t = .bytes b' t' ∧ KBw.bInts b' = runOf p ks i) ∧ j = i + (runOf p ks i).length := ⟨⟨b, t, rfl, kb.trans (run_slice h0 h1 (hs.symm.trans hj2) hj1)⟩, hs.symm.trans hj2⟩
end
section
open PySem PySem.W PyProof.Rows PySem.Calls
theorem run_fig_c (w : World) {wa da : Addr} {sl : Array (Option Value)} {k1 k2 t1 : Nat} {data : Array UInt8} {ks : List Int} {i : Int} (hks : KBw.bInts data = ks) (hlen : ks.length ≤ 1000) (h0 : 0 ≤ i) (h1 : i ≤ ks.length) :
    GivesW w 260 5 wa da (wireD w k1 k2 data t1) sl i [.ref 189] (fun v j => (∃ b t, v = .bytes b t ∧ KBw.bInts b = runOf figB ks i) ∧ j = i + (runOf figB ks i).length) (fun C => False) := by
  k_with_none
  k_with "compareOp NotIn int bytes" => (k_here; (with_reducible show wpAny _ _ (compareOp CmpOp.NotIn (Value.int _ _) (Value.bytes _ _)) _ _ _); refine notin_bytes ?_ ?_ rfl ?_; (first | assumption | omega); (first | assumption | omega))
  k_with "compareOp In int bytes" => (k_here; (with_reducible show wpAny _ _ (compareOp CmpOp.In (Value.int _ _) (Value.bytes _ _)) _ _ _); refine in_bytes ?_ ?_ rfl ?_; (first | assumption | omega); (first | assumption | omega))
  k_with "call ref" => (k_here; (with_reducible show wpAny _ _ (call (Value.ref 71) _) _ _ _); k_dflt (refine' excCall_c _ (fault71 _) (by k_asm) (by k_asm) (by k_asm) (by k_asm) (by k_asm) (by first | exact rfl | assumption) (by ktr_room) (by ktr_units) ?_; k_whole; intro e9 t9 d9 h9 tk9 F9 N9 n1 n2 n3; (try k_sweep); (try dsimp only); (try k_fold)))
  k_with "call ref" => (k_here; (with_reducible show wpAny _ _ (call (Value.ref 83) _) _ _ _); k_dflt (refine' excCall_c _ (fault83 _) (by k_asm) (by k_asm) (by k_asm) (by k_asm) (by k_asm) (by first | exact rfl | assumption) (by ktr_room) (by ktr_units) ?_; k_whole; intro e9 t9 d9 h9 tk9 F9 N9 n1 n2 n3; (try k_sweep); (try dsimp only); (try k_fold)))
  k_with "exec Raise some none" => (k_here; refine raise_any rfl ?_)
  k_with "RaiseEnd" => (k_here; refine' raiseEnd_K (by k_asm) (by k_asm) (by k_asm) (by first | exact fault71 _ | exact fault83 _) ?_)
  k_with "leaving ref" => (k_here; k_dflt (first | (refine' leave_raiseL (by k_asm) (by k_asm) (by k_asm) (by assumption) (by assumption) (by assumption) ?_; intro h9 S9 U9) | (refine' leave_onS (by assumption) (by assumption) (by assumption) (by assumption) ?_; intro h9 S9 S9' U9)))
  k_with "call ref" => (k_here; (with_reducible show wpAny _ _ (call (Value.ref 189) _) _ _ _); k_dflt refine' GivesP.use2 (by k_asm) (by k_asm) (by k_asm) (by k_asm) (by k_asm) (by first | exact rfl | assumption) (by ktr_room) (by ktr_units) (is_figure_c _ _ _ ) ?_; intro v9 h9 tk9 r9 F9 N9; subst r9; (try dsimp only); (try k_fold))
  k_with "KswEnd" => (k_here; refine ksw_end (_, _) (by assumption) (by assumption) (fun p hp => hp) trivial (fun p hp => absurd hp List.not_mem_nil) (fun z _ _ => rfl) ?_ ?_)
  k_with "exec" => (k_here; (rename Fr _ _ _ _ => lF9); (rename News _ _ _ _ => lN9); refine ksw_while (σ := Int × Tok) (fun c => (da, wireD w k1 k2 data t1 c.1 c.2) :: (wa, wireO da sl) :: rest) (fun _ => []) (fun _ => True) [] (fun c => 0 ≤ c.1 ∧ c.1 ≤ ks.length ∧ runEnd figB ks c.1 = runEnd figB ks i) (fun c => (ks.length - c.1).toNat) (i, _) lF9 lN9 trivial (fun _ hp => absurd hp List.not_mem_nil) ⟨h0, h1, rfl⟩ ?_; clear lF9 lN9; rintro ⟨j9, t9⟩ u9 h9 tk9 - ⟨hj0, hj1, hj2⟩ F9 N9; replace F9 := ksw_plain F9; dsimp only at hj0 hj1 hj2 N9)
  refine givesW_start (fun _ => dict_ne) ?_
  intro mean mg mb dp un gd cn cs a ccd cl outer A₀ base h₀ L m s Q E rest t2 B F X N T hk hr hne hdp hun ret exc
  refine wpAny_call ?_
  k_dflt ktr_enter
  k_steps
  all_goals first
    | exact (runEnd_step hj0 (by assumption) (by assumption)).trans hj2
    | exact (runEnd_step hj0 (by assumption) (decide_eq_true ⟨by assumption, by assumption⟩)).trans hj2
    | exact ret_W ret (by assumption) (by assumption) (run_out h0 h1 hj1 hj2 (runEnd_stop hj0 (by assumption) (by assumption)) (by assumption))
    | exact ret_W ret (by assumption) (by assumption) (run_out h0 h1 hj1 hj2 (runEnd_stop hj0 (by assumption) (decide_eq_false (fun q => absurd q.1 (by assumption)))) (by assumption))
    | exact ret_W ret (by assumption) (by assumption) (run_out h0 h1 hj1 hj2 (runEnd_stop hj0 (by assumption) (decide_eq_false (fun q => absurd q.2 (by assumption)))) (by assumption))
    | exact ret_W ret (by assumption) (by assumption) (run_out h0 h1 hj1 hj2 (runEnd_end hj0 hj1 (by assumption)) (by assumption))
end
section
open PySem PySem.W PyProof.Rows PySem.Calls
theorem run_astr_c (w : World) {wa da : Addr} {sl : Array (Option Value)} {k1 k2 t1 : Nat} {data : Array UInt8} {ks : List Int} {i : Int} (hks : KBw.bInts data = ks) (hlen : ks.length ≤ 1000) (h0 : 0 ≤ i) (h1 : i ≤ ks.length) :
    GivesW w 260 8 wa da (wireD w k1 k2 data t1) sl i [.ref 175] (fun v j => (∃ b t, v = .bytes b t ∧ KBw.bInts b = runOf astrB ks i) ∧ j = i + (runOf astrB ks i).length) (fun C => False) := by
  k_with_none
  k_with "compareOp NotIn int bytes" => (k_here; (with_reducible show wpAny _ _ (compareOp CmpOp.NotIn (Value.int _ _) (Value.bytes _ _)) _ _ _); refine notin_bytes ?_ ?_ rfl ?_; (first | assumption | omega); (first | assumption | omega))
  k_with "compareOp In int bytes" => (k_here; (with_reducible show wpAny _ _ (compareOp CmpOp.In (Value.int _ _) (Value.bytes _ _)) _ _ _); refine in_bytes ?_ ?_ rfl ?_; (first | assumption | omega); (first | assumption | omega))
  k_with "call ref" => (k_here; (with_reducible show wpAny _ _ (call (Value.ref 71) _) _ _ _); k_dflt (refine' excCall_c _ (fault71 _) (by k_asm) (by k_asm) (by k_asm) (by k_asm) (by k_asm) (by first | exact rfl | assumption) (by ktr_room) (by ktr_units) ?_; k_whole; intro e9 t9 d9 h9 tk9 F9 N9 n1 n2 n3; (try k_sweep); (try dsimp only); (try k_fold)))
  k_with "call ref" => (k_here; (with_reducible show wpAny _ _ (call (Value.ref 83) _) _ _ _); k_dflt (refine' excCall_c _ (fault83 _) (by k_asm) (by k_asm) (by k_asm) (by k_asm) (by k_asm) (by first | exact rfl | assumption) (by ktr_room) (by ktr_units) ?_; k_whole; intro e9 t9 d9 h9 tk9 F9 N9 n1 n2 n3; (try k_sweep); (try dsimp only); (try k_fold)))
  k_with "exec Raise some none" => (k_here; refine raise_any rfl ?_)
  k_with "RaiseEnd" => (k_here; refine' raiseEnd_K (by k_asm) (by k_asm) (by k_asm) (by first | exact fault71 _ | exact fault83 _) ?_)
  k_with "leaving ref" => (k_here; k_dflt (first | (refine' leave_raiseL (by k_asm) (by k_asm) (by k_asm) (by assumption) (by assumption) (by assumption) ?_; intro h9 S9 U9) | (refine' leave_onS (by assumption) (by assumption) (by assumption) (by assumption) ?_; intro h9 S9 S9' U9)))
  k_with "call ref" => (k_here; (with_reducible show wpAny _ _ (call (Value.ref 175) _) _ _ _); k_dflt refine' GivesP.use2 (by k_asm) (by k_asm) (by k_asm) (by k_asm) (by k_asm) (by first | exact rfl | assumption) (by ktr_room) (by ktr_units) (is_astr_x _ _ _ (by first | assumption | omega) (by first | assumption | omega)) ?_; intro v9 h9 tk9 r9 F9 N9; obtain ⟨b9, e9, q9⟩ := r9; subst e9; (try dsimp only); (try k_fold))
  k_with "KswEnd" => (k_here; refine ksw_end (_, _) (by assumption) (by assumption) (fun p hp => hp) trivial (fun p hp => absurd hp List.not_mem_nil) (fun z _ _ => rfl) ?_ ?_)
  k_with "exec" => (k_here; (rename Fr _ _ _ _ => lF9); (rename News _ _ _ _ => lN9); refine ksw_while (σ := Int × Tok) (fun c => (da, wireD w k1 k2 data t1 c.1 c.2) :: (wa, wireO da sl) :: rest) (fun _ => []) (fun _ => True) [] (fun c => 0 ≤ c.1 ∧ c.1 ≤ ks.length ∧ runEnd astrB ks c.1 = runEnd astrB ks i) (fun c => (ks.length - c.1).toNat) (i, _) lF9 lN9 trivial (fun _ hp => absurd hp List.not_mem_nil) ⟨h0, h1, rfl⟩ ?_; clear lF9 lN9; rintro ⟨j9, t9⟩ u9 h9 tk9 - ⟨hj0, hj1, hj2⟩ F9 N9; replace F9 := ksw_plain F9; dsimp only at hj0 hj1 hj2 N9)
  refine givesW_start (fun _ => dict_ne) ?_
  intro mean mg mb dp un gd cn cs a ccd cl outer A₀ base h₀ L m s Q E rest t2 B F X N T hk hr hne hdp hun ret exc
  refine wpAny_call ?_
  k_dflt ktr_enter
  k_steps
  all_goals (first | (rename _ = astrB _ => qb; (try (rename _ = true => qt; rw [qt] at qb)); (try (rename _ = false => qt; rw [qt] at qb)); replace qb := qb.symm) | skip)
  all_goals first
    | exact (runEnd_step hj0 (by assumption) (by assumption)).trans hj2
    | exact (runEnd_step hj0 (by assumption) (decide_eq_true ⟨by assumption, by assumption⟩)).trans hj2
    | exact ret_W ret (by assumption) (by assumption) (run_out h0 h1 hj1 hj2 (runEnd_stop hj0 (by assumption) (by assumption)) (by assumption))
    | exact ret_W ret (by assumption) (by assumption) (run_out h0 h1 hj1 hj2 (runEnd_stop hj0 (by assumption) (decide_eq_false (fun q => absurd q.1 (by assumption)))) (by assumption))
    | exact ret_W ret (by assumption) (by assumption) (run_out h0 h1 hj1 hj2 (runEnd_stop hj0 (by assumption) (decide_eq_false (fun q => absurd q.2 (by assumption)))) (by assumption))
    | exact ret_W ret (by assumption) (by assumption) (run_out h0 h1 hj1 hj2 (runEnd_end hj0 hj1 (by assumption)) (by assumption))
end
section
open PySem PySem.W PyProof.Rows PySem.Calls
theorem runOf_at {p : Int → Bool} {ks : List Int} {i : Int} {b : Array UInt8} (hb : KBw.bInts b = runOf p ks i) (hlen : ks.length ≤ 1000) (h0 : 0 ≤ i) (h1 : i ≤ ks.length) : i + (runOf p ks i).length ≤ ks.length ∧ (runOf p ks i).length ≤ 1000 := by
  have : (runOf p ks i).length ≤ (ks.drop i.toNat).length := by
    unfold runOf
    exact (List.takeWhile_sublist p).length_le
  rw [List.length_drop] at this
  omega
end
section
open PySem PySem.W PyProof.Rows PySem.Calls
theorem number_c (w : World) {wa da : Addr} {sl : Array (Option Value)} {k1 k2 t1 : Nat} {data : Array UInt8} {ks : List Int} {i : Int} (hks : KBw.bInts data = ks) (hlen : ks.length ≤ 1000) (h0 : 0 ≤ i) (h1 : i ≤ ks.length) :
    GivesW w 309 9 wa da (wireD w k1 k2 data t1) sl i [] (fun v j => (∃ t, v = .int (numZ (runOf figB ks i)) t) ∧ j = i + (runOf figB ks i).length ∧ 0 < (runOf figB ks i).length ∧ (runOf figB ks i).length ≤ 19) (fun C => C = 71 ∧ ((runOf figB ks i).length = 0 ∨ 19 < (runOf figB ks i).length)) := by
  k_with_none
  k_with "compareOp NotIn int bytes" => (k_here; (with_reducible show wpAny _ _ (compareOp CmpOp.NotIn (Value.int _ _) (Value.bytes _ _)) _ _ _); refine notin_bytes ?_ ?_ rfl ?_; (first | assumption | omega); (first | assumption | omega))
  k_with "compareOp In int bytes" => (k_here; (with_reducible show wpAny _ _ (compareOp CmpOp.In (Value.int _ _) (Value.bytes _ _)) _ _ _); refine in_bytes ?_ ?_ rfl ?_; (first | assumption | omega); (first | assumption | omega))
  k_with "call ref" => (k_here; (with_reducible show wpAny _ _ (call (Value.ref 71) _) _ _ _); k_dflt (refine' excCall_c _ (fault71 _) (by k_asm) (by k_asm) (by k_asm) (by k_asm) (by k_asm) (by first | exact rfl | assumption) (by ktr_room) (by ktr_units) ?_; k_whole; intro e9 t9 d9 h9 tk9 F9 N9 n1 n2 n3; (try k_sweep); (try dsimp only); (try k_fold)))
  k_with "call ref" => (k_here; (with_reducible show wpAny _ _ (call (Value.ref 83) _) _ _ _); k_dflt (refine' excCall_c _ (fault83 _) (by k_asm) (by k_asm) (by k_asm) (by k_asm) (by k_asm) (by first | exact rfl | assumption) (by ktr_room) (by ktr_units) ?_; k_whole; intro e9 t9 d9 h9 tk9 F9 N9 n1 n2 n3; (try k_sweep); (try dsimp only); (try k_fold)))
  k_with "exec Raise some none" => (k_here; refine raise_any rfl ?_)
  k_with "RaiseEnd" => (k_here; refine' raiseEnd_K (by k_asm) (by k_asm) (by k_asm) (by first | exact fault71 _ | exact fault83 _) ?_)
  k_with "leaving ref" => (k_here; k_dflt (first | (refine' leave_raiseL (by k_asm) (by k_asm) (by k_asm) (by assumption) (by assumption) (by assumption) ?_; intro h9 S9 U9) | (refine' leave_onS (by assumption) (by assumption) (by assumption) (by assumption) ?_; intro h9 S9 S9' U9)))
  k_with "call ref" => (k_here; (with_reducible show wpAny _ _ (call (Value.ref 196) _) _ _ _); k_dflt refine' GivesP.use2 (by k_asm) (by k_asm) (by k_asm) (by k_asm) (by k_asm) (by first | exact rfl | assumption) (by ktr_room) (by ktr_units) (numfig_c _ (by assumption) (by first | assumption | omega)) ?_; intro v9 h9 tk9 r9 F9 N9; obtain ⟨u9, e9⟩ := r9; subst e9; (try dsimp only); (try k_fold))
  k_with "call ref" => (k_here; (with_reducible show wpAny _ _ (call (Value.ref 260) _) _ _ _); k_dflt (refine' GivesW.use2 (D := wireD w _ _ _ _) (by k_asm) (by k_asm) (by k_asm) (by k_asm) (by k_asm) (by first | exact rfl | assumption) (by k_mem) (by (intro o9; k_upd)) (by ktr_room) (by ktr_units) (run_fig_c _ (by assumption) (by first | assumption | omega) (by first | assumption | omega) (by first | assumption | omega)) ?_ (by (intro _ _ _ _ _ _ _ _ x9; exact False.elim x9)); k_whole; intro v9 j9 t9 h9 tk9 r9 F9 N9; obtain ⟨⟨b9, u9, e9, hb9⟩, e9'⟩ := r9; subst e9; subst e9'; (have hl9 := runOf_at hb9 (by assumption) (by first | assumption | omega) (by first | assumption | omega)); have hl8 := hl9.2; (try dsimp only at N9); (try k_sweep); (try dsimp only); (try k_fold)))
  refine givesW_start (fun _ => dict_ne) ?_
  intro mean mg mb dp un gd cn cs a ccd cl outer A₀ base h₀ L m s Q E rest t2 B F X N T hk hr hne hdp hun ret exc
  refine wpAny_call ?_
  k_dflt ktr_enter
  k_steps
  · exact exc_W exc (by assumption) (by assumption) (by assumption) ⟨rfl, by omega⟩
  · exact exc_W exc (by assumption) (by assumption) (by assumption) ⟨rfl, by omega⟩
  · exact ret_W ret (by assumption) (by assumption) ⟨⟨_, rfl⟩, rfl, by omega, by omega⟩
end
section
open PySem PySem.W PyProof.Rows PySem.Calls
/-- a code that no look at the stack takes for a holder of a bytearray -/
def heldIds : List String := "bytearray.__contains__" :: "bytearray.__mod__" :: "bytearray.__rmod__" :: "_struct.pack_into.held" :: "bytearray.find.held" :: Builtin.Bytes.decodersThatHold
def okC : Code → Bool
  | .builtin id _ => !heldIds.contains id
  | _ => true
def okL (l : List (Code × Pos)) : Prop := ∀ x ∈ l, okC x.1 = true
def wpN {α : Type} (M : Model) (A : Around) (t : Sem α) (Q : α → Shared → Prop) (E : Value → Shared → Prop) (s : Shared) : Prop :=
  ∀ Γ p, Γ.In A → okC Γ.code = true → okL Γ.below → Sem.wp M Γ t (fun a _ s' => Q a s') (fun e _ s' => E e s') p s
def codeN (M : Model) (A : Around) (c : Code) (R : Result → Shared → Prop) (s : Shared) : Prop :=
  ∀ Γ p, Γ.code = c → Γ.Below A → okL Γ.below → wpCode M Γ R p s
section
variable {α β : Type} {M : Model} {A : Around} {E : Value → Shared → Prop} {s : Shared}
theorem wpN_of {t : Sem α} {Q : α → Shared → Prop} (h : wpAny M A t Q E s) : wpN M A t Q E s := fun Γ p hΓ _ _ => h Γ p hΓ
theorem codeN_of {c : Code} {R : Result → Shared → Prop} (h : codeAny M A c R s) : codeN M A c R s := fun Γ p hc hΓ _ => h Γ p hc hΓ
theorem wpN_pure {a : α} {Q : α → Shared → Prop} (h : Q a s) : wpN M A (pure a) Q E s := fun _ _ _ _ _ => h
theorem wpN_mono {t : Sem α} {Q Q' : α → Shared → Prop} {E' : Value → Shared → Prop} (h : wpN M A t Q E s) (hQ : ∀ a s, Q a s → Q' a s) (hE : ∀ e s, E e s → E' e s) : wpN M A t Q' E' s :=
  fun Γ p hΓ h1 h2 => Sem.wp_mono M Γ t (fun a _ s => hQ a s) (fun e _ s => hE e s) p s (h Γ p hΓ h1 h2)
theorem wpN_bind {m : Sem α} {f : α → Sem β} {Q : β → Shared → Prop} (h : wpN M A m (fun a s' => wpN M A (f a) Q E s') E s) : wpN M A (m >>= f) Q E s := fun Γ p hΓ h1 h2 => by
  rw [Sem.wp_bind']
  exact Sem.wp_mono M Γ m (fun a p' s' h' => h' Γ p' hΓ h1 h2) (fun _ _ _ h' => h') p s (h Γ p hΓ h1 h2)
theorem wpN_bindA {m : Sem α} {f : α → Sem β} {Q : β → Shared → Prop} (h : wpAny M A m (fun a s' => wpN M A (f a) Q E s') E s) : wpN M A (m >>= f) Q E s := wpN_bind (wpN_of h)
theorem wpN_tryCatch {m : Sem α} {k : Value → Sem α} {Q : α → Shared → Prop} (h : wpN M A m Q (fun e s' => wpN M A (k e) Q E s') s) : wpN M A (tryCatch m k) Q E s := fun Γ p hΓ h1 h2 => by
  rw [Sem.wp_tryCatch']
  exact Sem.wp_mono M Γ m (fun _ _ _ h' => h') (fun e p' s' h' => h' Γ p' hΓ h1 h2) p s (h Γ p hΓ h1 h2)
theorem wpN_onRaise {m : Sem α} {k : Value → Sem Unit} {Q : α → Shared → Prop} (h : wpN M A m Q (fun e s' => wpAny M A (k e) (fun _ s'' => E e s'') E s') s) : wpN M A (m.onRaise k) Q E s := fun Γ p hΓ h1 h2 => by
  rw [Sem.wp_onRaise]
  exact Sem.wp_mono M Γ m (fun _ _ _ h' => h') (fun e p' s' h' => h' Γ p' hΓ) p s (h Γ p hΓ h1 h2)
theorem wpN_attempt {m : Sem α} {Q : Except Value α → Shared → Prop} (h : wpN M A m (fun a => Q (.ok a)) (fun e => Q (.error e)) s) : wpN M A m.attempt Q E s := fun Γ p hΓ h1 h2 => by rw [Sem.wp_attempt]; exact h Γ p hΓ h1 h2
theorem wpN_holding {vs : List Value} {m : Sem α} {Q : α → Shared → Prop} (h : wpN M A m Q E s) : wpN M A (holding vs m) Q E s := fun Γ p hΓ h1 h2 => by rw [Sem.wp_holding]; exact h Γ p hΓ h1 h2
theorem wpN_standAt {pos : Pos} {Q : Unit → Shared → Prop} (h : Q () s) : wpN M A (standAt pos) Q E s := wpN_of (wpAny_standAt h)
theorem codeN_mono {c : Code} {R R' : Result → Shared → Prop} (h : codeN M A c R s) (hR : ∀ r s, R r s → R' r s) : codeN M A c R' s := fun Γ p hc hΓ h2 => wpCode_mono hR (h Γ p hc hΓ h2)
theorem okL_cons {c : Code} {p : Pos} {l : List (Code × Pos)} (h : okC c = true) (hl : okL l) : okL ((c, p) :: l) := fun x hx => by
  rcases List.mem_cons.mp hx with rfl | hx
  · exact h
  · exact hl x hx
theorem wpN_run {c : Code} {h : Option Value} {Q : Flow → Shared → Prop}
    (hc : codeN M (A.mark h) c (fun r s' => match r with | .ok f => Q f s' | .error e => E e s') s) (hnb : h ≠ some byPass := by intro x; cases x) : wpN M A (run c h) Q E s :=
  fun Γ p hΓ h1 h2 => by rw [Sem.wp_run]; exact hc _ p rfl (hΓ.enter c h p hnb) (okL_cons h1 h2)
theorem wpN_runValue {c : Code} {Q : Value → Shared → Prop}
    (hc : codeN M A c (fun r s' => match r with | .ok (.ret v) => Q v s' | .ok _ => False | .error e => E e s') s) : wpN M A (runValue c) Q E s :=
  fun Γ p hΓ h1 h2 => by rw [Sem.wp_runValue]; exact hc _ p rfl (hΓ.enter c none p (by intro x; cases x)) (okL_cons h1 h2)
theorem wpN_call {f : Value} {pos : List Value} {kw : List (PySem.Str × Value)} {Q : Value → Shared → Prop}
    (hc : codeN M A (.call f ⟨pos, kw⟩) (fun r s' => match r with | .ok (.ret v) => Q v s' | .ok _ => False | .error e => E e s') s) : wpN M A (call f pos kw) Q E s := wpN_runValue hc
theorem codeN_of_tree {c : Code} {R : Result → Shared → Prop} (hok : okC c = true)
    (h : wpN M (A.under c) (M.den c) (fun fin s' => match fin with | .done f => R (.ok f) s' | .again c' => c'.quiet = true ∧ codeN M A c' R s') (fun e s' => R (.error e) s') s) : codeN M A c R s := fun Γ p hc hΓ h2 => by
  rw [wpCode_iff_wp, hc]
  refine Sem.wp_mono M Γ _ (fun fin p' s' h' => ?_) (fun _ _ _ h' => h') p s (h Γ p (hc ▸ hΓ.in) (hc ▸ hok) h2)
  cases fin with
  | done f => exact h'
  | again c' => exact ⟨h'.1, h'.2 (Γ.goto c') p' rfl (hΓ.goto c') h2⟩
theorem codeN_loop {c : Code} {R : Result → Shared → Prop} (hok : okC c = true) (hq : c.quiet = true) (I : Nat → Shared → Prop)
    (turn : ∀ n s, I n s → wpN M (A.under c) (M.den c) (fun fin s' => match fin with | .done f => R (.ok f) s' | .again c' => c' = c ∧ ∃ m, m < n ∧ I m s') (fun e s' => R (.error e) s') s)
    (n : Nat) (h : I n s) : codeN M A c R s := by
  induction n using Nat.strongRecOn generalizing s with
  | ind n ih =>
    refine codeN_of_tree hok (wpN_mono (turn n s h) (fun fin s' hf => ?_) fun _ _ h' => h')
    cases fin with
    | done f => exact hf
    | again c' => obtain ⟨rfl, m, hm, hI⟩ := hf; exact ⟨hq, ih m hm hI⟩
end
section
variable {prog : Program} {w : World} {A : Around} {E : Value → Shared → Prop} {s : Shared}
theorem codeN_builtin {id : String} {args : Args} {b : Builtin} {R : Result → Shared → Prop} (hok : okC (.builtin id args) = true) (hb : entryFor table id = some b)
    (h : wpN (model prog w) (A.under (.builtin id args)) (b args) (fun fin s' => match fin with | .done f => R (.ok f) s' | .again c' => c'.quiet = true ∧ codeN (model prog w) A c' R s') (fun e s' => R (.error e) s') s) :
    codeN (model prog w) A (.builtin id args) R s := by
  refine codeN_of_tree hok ?_
  show wpN _ _ (match entryFor table id with | some b => b args | none => unsupported ((withoutEnding? id "#data").getD id)) _ _ s
  rw [hb]; exact h
/-- no code of a good stack holds the bytearray -/
theorem wpN_exported {M : Model} {v : Value} {Q : Bool → Shared → Prop} (h : Q false s) : wpN M A (Builtin.Bytes.exported v) Q E s := fun Γ p hΓ h1 h2 => by
  unfold Builtin.Bytes.exported
  show Q (((Γ.code, p) :: Γ.below).any _) s
  have e : ∀ (l : List (Code × Pos)) (f : Code × Pos → Bool), okL l → (∀ x, okC x.1 = true → f x = false) → l.any f = false := fun l f hl hf => by
    rw [List.any_eq_false]
    intro x hx
    rw [hf x (hl x hx)]
    exact Bool.false_ne_true
  rw [e _ _ (okL_cons h1 h2) ?_]
  · exact h
  · intro x hx
    split
    all_goals first
      | rfl
      | (exfalso; revert hx; simp only [okC]; decide +kernel)
      | skip
    rename_i id v' _ _ _ _ _ _ _ _
    simp only [okC, heldIds, List.contains_cons, Bool.not_eq_true', Bool.or_eq_false_iff] at hx
    rw [hx.2.2.2.2.2, Bool.and_false]
end
end
section
open PySem PySem.W PyProof.Rows PySem.Calls
namespace BA
theorem slot_append : Slot "bytearray" "append" "bytearray.append" :=
  .of (owner := "bytearray") (n := "append") (by rw [typeLookup_type, builtinLookup_eq_fast]; kernel_rfl) (by decide +kernel) (by decide +kernel) (by decide +kernel)
    (by first | exact .inl (by decide +kernel) | exact .inr (by decide +kernel)) (by rw [isSubtype_type]; kernel_rfl)
theorem slot_init : Slot "bytearray" "__init__" "bytearray.__init__" :=
  .of (owner := "bytearray") (n := "__init__") (by rw [typeLookup_type, builtinLookup_eq_fast]; kernel_rfl) (by decide +kernel) (by decide +kernel) (by decide +kernel)
    (by first | exact .inl (by decide +kernel) | exact .inr (by decide +kernel)) (by rw [isSubtype_type]; kernel_rfl)
theorem entry_append : entryFor table "bytearray.append" = some Builtin.«bytearray.append» := entryFor_of_tree (by kernel_rfl)
theorem entry_init : entryFor table "bytearray.__init__" = some Builtin.«bytearray.__init__» := entryFor_of_tree (by kernel_rfl)
theorem entry_new : entryFor table "bytearray.__new__" = some Builtin.«list.__new__» := entryFor_alias (id' := "list.__new__") (by kernel_rfl) rfl (by decide +kernel) (by kernel_rfl)
theorem args_append (a b : Value) : argsOk "bytearray.append" ⟨[a, b], []⟩ := by unfold argsOk; kernel_rfl
theorem args_init (a : Value) : argsOk "bytearray.__init__" ⟨[a], []⟩ := by unfold argsOk; kernel_rfl
theorem mro_ba : mroOf (.type "bytearray") = pure [.type "bytearray", .type "object"] := by rw [mroOf_type]; kernel_rfl
theorem lookup_new : typeLookup (.type "bytearray") "__new__" = pure (some (.builtin "bytearray.__new__")) := by rw [typeLookup_type, builtinLookup_eq_fast]; kernel_rfl
theorem called : TypeCalled "bytearray" "bytearray.__new__" "bytearray.__init__" :=
  ⟨by decide +kernel, by decide +kernel, ⟨_, _, mro_ba⟩, madeBy_type mro_ba lookup_new (by decide +kernel), by decide +kernel, by rw [isSubtype_type]; kernel_rfl, slot_init⟩
theorem typeCall : checkTypeCall "bytearray" ⟨[], []⟩ = pure () := by kernel_rfl
theorem newCall : checkBuiltinCall "bytearray.__new__" ⟨[.type "bytearray"], []⟩ = pure () := by kernel_rfl
theorem plain_new : plainId "bytearray.__new__" = true := by decide +kernel
set_option maxRecDepth 1000000 in
theorem owner_new : ("bytearray.__new__".splitOn ".__new__").headD "" = "bytearray" := by simp +decide [String.splitOn, String.splitOnAux]
theorem sub_self : isSubtype (.type "bytearray") (.type "bytearray") = pure true := by rw [isSubtype_type]; kernel_rfl
theorem look_release : typeLookup (.type "bytearray") "__release_buffer__" = pure (some (.builtin "bytearray.__release_buffer__")) := by rw [typeLookup_type, builtinLookup_eq_fast]; kernel_rfl
theorem look_buffer : typeLookup (.type "bytearray") "__buffer__" = pure (some (.builtin "bytearray.__buffer__")) := by rw [typeLookup_type, builtinLookup_eq_fast]; kernel_rfl
theorem look_bytes : typeLookup (.type "bytearray") "__bytes__" = pure none := by rw [typeLookup_type, builtinLookup_eq_fast]; kernel_rfl
theorem look_index : typeLookup (.type "bytearray") "__index__" = pure none := by rw [typeLookup_type, builtinLookup_eq_fast]; kernel_rfl
theorem look_bb : typeLookup (.type "bytes") "__bytes__" = pure (some (.builtin "bytes.__bytes__")) := by rw [typeLookup_type, builtinLookup_eq_fast]; kernel_rfl
theorem bind_init : Builtin.Bytes.bindOptional "bytearray.__init__" "bytearray" ["source", "encoding", "errors"] [] [] = pure [none, none, none] := by kernel_rfl
theorem ga : typeLookup (.type "bytearray") "__getattribute__" = pure (some (.builtin "bytearray.__getattribute__")) := by rw [typeLookup_type, builtinLookup_eq_fast]; kernel_rfl
theorem canon_ga : Manifest.canonical "bytearray.__getattribute__" = "object.__getattribute__" := by kernel_rfl
theorem no_getattr : typeLookup (.type "bytearray") "__getattr__" = pure none := by rw [typeLookup_type, builtinLookup_eq_fast]; kernel_rfl
theorem type_append : typeOf (.builtin "bytearray.append") = pure (.type "method_descriptor") := by show builtinType _ = _; rw [builtinType_eq_fast]; kernel_rfl
end BA
end
section
open PySem PySem.W PyProof.Rows PySem.Calls
namespace BA
abbrev arr (b : Array UInt8) : Obj := { cls := .type "bytearray", data := .bytearray b }
section
variable {prog : Program} {w : World} {A : Around} {E : Value → Shared → Prop} {s : Shared}
theorem wpN_checkResize {M : Model} {a : Addr} {b : Array UInt8} {Q : Unit → Shared → Prop} (ho : s.heap.get? a = some (arr b)) (h : Q () s) : wpN M A (Builtin.Bytes.checkResize (.ref a)) Q E s := by
  unfold Builtin.Bytes.checkResize
  refine wpN_bind ?_
  refine wpN_bind (wpN_exported ?_)
  show wpN _ _ (Builtin.Bytes.exportsOf (.ref a) >>= fun n => pure (decide (n > 0))) _ _ _
  refine wpN_of ?_
  unfold Builtin.Bytes.exportsOf
  refine wpAny_bind (wpAny_bind (wpAny_load ho (wpAny_pure (wpAny_pure ?_))))
  exact wpN_pure h
theorem wpAny_write {M : Model} {a : Addr} {b : Array UInt8} {f : Array UInt8 → Array UInt8} {Q : Unit → Shared → Prop} (ho : s.heap.get? a = some (arr b)) (hz : (f b).size ≤ sizeLine) (h : Q () { s with heap := s.heap.update a (Obj.mapBytearray f) }) : wpAny M A (Builtin.Bytes.write (.ref a) f) Q E s := by
  show wpAny _ _ (updateBytearray a f) _ _ _
  unfold updateBytearray
  refine wpAny_bind (wpAny_load ho ?_)
  show wpAny _ _ (update a (Obj.mapBytearray f) >>= fun _ => lookBehind a) _ _ _
  refine wpAny_bind (wpAny_update ho ?_)
  have hS : (s.heap.update a (Obj.mapBytearray f)).get? a = some (arr (f b)) := Heap.get?_update_self (Obj.mapBytearray f) ho rfl
  refine wpAny_lookBehind hS ?_ h
  show (if (f b).size > sizeLine then some "bytearray:memory" else none) = none
  rw [if_neg]
  omega
theorem append_N {a : Addr} {b : Array UInt8} {c : Int} {t : Tok} {Q : Value → Shared → Prop} (ho : s.heap.get? a = some (arr b)) (h0 : 0 ≤ c) (h1 : c < 256) (hz : b.size < sizeLine)
    (h : Q .none { s with heap := s.heap.update a (Obj.mapBytearray (·.push c.toNat.toUInt8)) }) : wpN (model prog w) A (call (.builtin "bytearray.append") [.ref a, .int c t]) Q E s := by
  refine wpN_call (codeN_of_tree rfl ?_)
  show wpN _ A.in1 (do checkBuiltinCall "bytearray.append" ⟨[.ref a, .int c t], []⟩; again (.builtin "bytearray.append" ⟨[.ref a, .int c t], []⟩)) _ _ s
  refine wpN_bindA (slot_append.check _ _ _ _ _ _ _ _ ⟨_, ho, rfl⟩ (args_append _ _) ?_)
  refine wpN_pure ⟨plainId_quiet slot_append.plain _, codeN_builtin (by show (!heldIds.contains "bytearray.append") = true; decide +kernel) entry_append ?_⟩
  rw [Around.under_plainId slot_append.plain _]
  show wpN _ A.in1 (Builtin.Bytes.byteValue (.int c t) >>= fun c' => Builtin.Bytes.checkResize (.ref a) >>= fun _ => Builtin.Bytes.write (.ref a) (·.push c') >>= fun _ => ret .none) _ _ s
  have e : Builtin.Bytes.byteValue (.int c t) = pure c.toNat.toUInt8 := by
    unfold Builtin.Bytes.byteValue
    show (if (decide (c < 0) || decide (c ≥ 256)) = true then _ else _) = _
    rw [if_neg (by simp only [Bool.or_eq_true, decide_eq_true_eq]; omega)]
  refine wpN_bindA (wpAny_of_eq e ?_)
  refine wpN_bind (wpN_checkResize ho ?_)
  refine wpN_bindA (wpAny_write ho (by rw [Array.size_push]; omega) ?_)
  exact wpN_pure h
theorem getMethod_append {a : Addr} {b : Array UInt8} {pl : Sem Bool} {Q : Value × List Value → Shared → Prop} (ho : s.heap.get? a = some (arr b))
    (h : Q (.builtin "bytearray.append", [.ref a]) s) : wpAny (model prog w) A (getMethod (.ref a) "append" pl) Q E s := by
  have hT : s.TypeIs (.ref a) "bytearray" := ⟨_, ho, rfl⟩
  unfold getMethod
  refine wpAny_bind (wpAny_specialOf hT ga ?_)
  show wpAny _ A (if (Manifest.canonical "bytearray.__getattribute__" != "object.__getattribute__") = true then _ else _) Q E s
  rw [canon_ga, if_neg (show ¬ (("object.__getattribute__" != "object.__getattribute__") = true) by decide +kernel)]
  refine wpAny_bind (wpAny_specialOf hT no_getattr ?_)
  refine wpAny_bind (wpAny_specialOf hT slot_append.lookup ?_)
  refine wpAny_bind (wpAny_of_eq type_append ?_)
  refine wpAny_bind (wpAny_load ho ?_)
  exact wpAny_bind (wpAny_rule (wpAny_pure h))
theorem code_new {Q₁ : Value → Shared → Prop} (h : Q₁ (.ref s.heap.objs.size) { s with heap := s.heap.push (arr #[]) }) : codeAny (model prog w) A (.call (.builtin "bytearray.__new__") ⟨[.type "bytearray"], []⟩) (wants Q₁ E) s := by
  refine codeAny_of_tree ?_
  show wpAny _ A.in1 (do checkBuiltinCall "bytearray.__new__" ⟨[.type "bytearray"], []⟩; again (.builtin "bytearray.__new__" ⟨[.type "bytearray"], []⟩)) _ _ s
  refine wpAny_bind (wpAny_of_eq newCall (wpAny_pure ⟨plainId_quiet plain_new _, codeAny_builtin_stack entry_new rfl fun p st => ?_⟩))
  rw [Around.under_plainId plain_new _]
  have hsub := sub_self
  have hown := owner_new
  obtain ⟨hp, g, d, tk, os⟩ := s
  simp only [hown]
  wp_walk
  exact h
theorem release_own {M : Model} {a : Addr} {b : Array UInt8} {Q : Bool → Shared → Prop} (ho : s.heap.get? a = some (arr b)) (h : Q false s) : wpAny M A (Builtin.Bytes.ownRelease (.ref a)) Q E s := by
  have hT : s.TypeIs (.ref a) "bytearray" := ⟨_, ho, rfl⟩
  unfold Builtin.Bytes.ownRelease Builtin.Bytes.slotIsOwn
  refine wpAny_bind (wpAny_bind (wpAny_specialOf hT look_release ?_))
  show wpAny _ _ (if (!"bytearray.__release_buffer__".endsWith ("." ++ "__release_buffer__")) = true then pure false else isInstance (.ref a) (.type ("bytearray.__release_buffer__".dropRight ("__release_buffer__".length + 1)))) _ _ _
  refine bm_if_false (by decide +kernel) ?_
  have key : ∀ x : String, x = "bytearray" → ∀ Q : Bool → Shared → Prop, Q true s → wpAny M A (isInstance (.ref a) (.type x)) Q E s := fun x hx Q hq => by rw [hx]; exact wpAny_isInstance hT sub_self hq
  exact key _ (by decide +kernel) _ (wpAny_pure h)
theorem own_buffer {M : Model} {a : Addr} {b : Array UInt8} {Q : Bool → Shared → Prop} (ho : s.heap.get? a = some (arr b)) (h : Q true s) : wpAny M A (Builtin.Bytes.slotIsOwn (.ref a) "__buffer__") Q E s := by
  have hT : s.TypeIs (.ref a) "bytearray" := ⟨_, ho, rfl⟩
  unfold Builtin.Bytes.slotIsOwn
  refine wpAny_bind (wpAny_specialOf hT look_buffer ?_)
  show wpAny _ _ (if (!"bytearray.__buffer__".endsWith ("." ++ "__buffer__")) = true then pure false else isInstance (.ref a) (.type ("bytearray.__buffer__".dropRight ("__buffer__".length + 1)))) _ _ _
  refine bm_if_false (by decide +kernel) ?_
  have key : ∀ x : String, x = "bytearray" → ∀ Q : Bool → Shared → Prop, Q true s → wpAny M A (isInstance (.ref a) (.type x)) Q E s := fun x hx Q hq => by rw [hx]; exact wpAny_isInstance hT sub_self hq
  exact key _ (by decide +kernel) _ h
theorem payload_arr {M : Model} {a : Addr} {b : Array UInt8} {Q : Array UInt8 → Shared → Prop} (ho : s.heap.get? a = some (arr b)) (h : Q b s) : wpAny M A (Builtin.Bytes.payload (.ref a)) Q E s := by
  unfold Builtin.Bytes.payload Builtin.Bytes.payload?
  exact wpAny_bind (wpAny_bind (wpAny_load ho (wpAny_pure (wpAny_pure h))))
theorem buffer_arr {M : Model} {id : String} {full : Bool} {a : Addr} {b : Array UInt8} {Q : Option (Array UInt8) → Shared → Prop} (ho : s.heap.get? a = some (arr b)) (h : Q (some b) s) : wpAny M A (Builtin.Bytes.buffer? id (.ref a) full) Q E s := by
  have hT : s.TypeIs (.ref a) "bytearray" := ⟨_, ho, rfl⟩
  unfold Builtin.Bytes.buffer?
  refine wpAny_bind (wpAny_specialOf hT look_buffer ?_)
  refine wpAny_bind (own_buffer ho ?_)
  refine bm_if_false rfl ?_
  refine wpAny_bind (wpAny_specialOf hT look_buffer ?_)
  refine wpAny_bind (m := Builtin.Bytes.ownRelease (.ref a)) (release_own ho ?_)
  refine bm_if_false rfl ?_
  exact wpAny_bind (payload_arr ho (wpAny_pure h))
theorem bb_new {b : Array UInt8} {t : Tok} {Q : Value → Shared → Prop} (hQ : ∀ t k, Q (.bytes b t) { s with toks := k }) :
    codeAny (model prog w) A (.call (.builtin "bytes.__new__") ⟨[.type "bytes", .bytes b t], []⟩) (wants Q E) s := by
  refine codeAny_of_tree ?_
  show wpAny _ A.in1 (do checkBuiltinCall "bytes.__new__" ⟨[.type "bytes", .bytes b t], []⟩; again (.builtin "bytes.__new__" ⟨[.type "bytes", .bytes b t], []⟩)) _ _ s
  refine wpAny_bind (wpAny_of_eq (F.bm_newCall _) (wpAny_pure ⟨plainId_quiet F.bm_plain _, codeAny_builtin F.bm_entry ?_⟩))
  rw [Around.under_plainId F.bm_plain _]
  unfold Builtin.«bytes.__new__»
  refine wpAny_bind (wpAny_of_eq (a := true) rfl ?_)
  refine bm_if_false rfl ?_
  refine wpAny_bind (wpAny_of_eq F.bm_sub ?_)
  refine bm_if_false rfl ?_
  refine wpAny_bind (wpAny_of_eq (F.bm_bind _) ?_)
  refine wpAny_bind (wpAny_of_eq (a := ()) rfl ?_)
  refine wpAny_bind (wpAny_of_eq (a := ()) rfl ?_)
  refine bm_if_false rfl ?_
  refine wpAny_bind (wpAny_of_eq (KBy.special_eq look_bb) ?_)
  refine wpAny_bind (m := rule _) (wpAny_rule ?_)
  refine wpAny_bind (m := typeOf _) (wpAny_typeOf (typeIs_bytes s b t) ?_)
  refine bm_if_true (by decide) ?_
  show wpAny _ _ (if (Value.type "bytes" == Value.type "bytes") = true then _ else _) _ _ _
  refine bm_if_true (by decide) ?_
  first
    | exact wpAny_pure (hQ _ _)
    | exact wpAny_bind (wpAny_pure (wpAny_pure (hQ _ _)))
theorem ba_new {a : Addr} {b : Array UInt8} {Q : Value → Shared → Prop} (ho : s.heap.get? a = some (arr b)) (hz : b.size ≤ sizeLine) (hQ : ∀ t k, Q (.bytes b t) { s with toks := k }) :
    codeAny (model prog w) A (.call (.builtin "bytes.__new__") ⟨[.type "bytes", .ref a], []⟩) (wants Q E) s := by
  refine codeAny_of_tree ?_
  show wpAny _ A.in1 (do checkBuiltinCall "bytes.__new__" ⟨[.type "bytes", .ref a], []⟩; again (.builtin "bytes.__new__" ⟨[.type "bytes", .ref a], []⟩)) _ _ s
  refine wpAny_bind (wpAny_of_eq (F.bm_newCall _) (wpAny_pure ⟨plainId_quiet F.bm_plain _, codeAny_builtin F.bm_entry ?_⟩))
  rw [Around.under_plainId F.bm_plain _]
  have hT : s.TypeIs (.ref a) "bytearray" := ⟨_, ho, rfl⟩
  unfold Builtin.«bytes.__new__»
  refine wpAny_bind (wpAny_of_eq (a := true) rfl ?_)
  refine bm_if_false rfl ?_
  refine wpAny_bind (wpAny_of_eq F.bm_sub ?_)
  refine bm_if_false rfl ?_
  refine wpAny_bind (wpAny_of_eq (F.bm_bind _) ?_)
  refine wpAny_bind (wpAny_of_eq (a := ()) rfl ?_)
  refine wpAny_bind (wpAny_of_eq (a := ()) rfl ?_)
  refine bm_if_false rfl ?_
  refine wpAny_bind (wpAny_specialOf hT look_bytes ?_)
  refine wpAny_bind (wpAny_bind ?_)
  show wpAny _ _ (load a >>= _) _ _ _
  refine wpAny_bind (wpAny_load ho ?_)
  refine wpAny_pure (wpAny_pure ?_)
  refine bm_if_false rfl ?_
  refine wpAny_bind (wpAny_specialOf hT look_index ?_)
  refine bm_if_true rfl ?_
  first
    | show wpAny _ _ (Builtin.Bytes.buffer? "bytes.__new__" (.ref a) true >>= _) _ _ _
    | (refine wpAny_bind ?_; show wpAny _ _ (Builtin.Bytes.buffer? "bytes.__new__" (.ref a) true >>= _) _ _ _)
  refine wpAny_bind (buffer_arr ho ?_)
  refine wpAny_bind (m := rule _) (wpAny_rule ?_)
  refine wpAny_bind (m := mkBytes _) (wpAny_mkBytes ?_ hz)
  show wpAny _ _ (if (Value.type "bytes" == Value.type "bytes") = true then _ else _) _ _ _
  refine bm_if_true (by decide) ?_
  first
    | exact wpAny_pure (hQ _ _)
    | exact wpAny_bind (wpAny_pure (wpAny_pure (hQ _ _)))
    | exact wpAny_pure (wpAny_pure (hQ _ _))
theorem call_bytes_bytes {b : Array UInt8} {t : Tok} {Q : Value → Shared → Prop} (hQ : ∀ t k, Q (.bytes b t) { s with toks := k }) : wpAny (model prog w) A (call (.type "bytes") [.bytes b t]) Q E s := by
  refine callType_codes (Q₁ := fun obj s₁ => s₁.TypeIs obj "bytes" ∧ Q obj s₁) F.bm_called (F.bm_typeCall _) F.entry_object_init
    (bb_new fun t k => ⟨PySem.W.typeIs_bytes _ _ _, hQ t k⟩) fun obj s₁ h₁ => ?_
  exact ⟨h₁.1, F.args_object_init_2 obj _, object_init_meets F.bm_called.init.lookup F.bm_called.made (by decide) prog w A.in1 _ s₁ ⟨h₁.1, rfl, h₁.2⟩⟩
theorem call_bytes_arr {a : Addr} {b : Array UInt8} {Q : Value → Shared → Prop} (ho : s.heap.get? a = some (arr b)) (hz : b.size ≤ sizeLine) (hQ : ∀ t k, Q (.bytes b t) { s with toks := k }) : wpAny (model prog w) A (call (.type "bytes") [.ref a]) Q E s := by
  refine callType_codes (Q₁ := fun obj s₁ => s₁.TypeIs obj "bytes" ∧ Q obj s₁) F.bm_called (F.bm_typeCall _) F.entry_object_init
    (ba_new ho hz fun t k => ⟨PySem.W.typeIs_bytes _ _ _, hQ t k⟩) fun obj s₁ h₁ => ?_
  exact ⟨h₁.1, F.args_object_init_2 obj _, object_init_meets F.bm_called.init.lookup F.bm_called.made (by decide) prog w A.in1 _ s₁ ⟨h₁.1, rfl, h₁.2⟩⟩
end
end BA
end
section
open PySem PySem.W PyProof.Rows PySem.Calls
section
variable {prog : Program} {w : World} {A : Around} {E : Value → Shared → Prop} {s : Shared} {h₀ : Heap} {L : Addr} {m : PySem.Str → Option Value} {env : Env}
/-- a source of a comprehension: any iterator of its own -/
def CompSrcI (prog : Program) (w : World) (A : Around) (h₀ : Heap) (L : Addr) (m : PySem.Str → Option Value) (env : Env) (elt : Expr) (x : PySem.Str) (scope : Scope) (cl : List (PySem.Str × Addr)) (Fin : Shared → List Value → List (Addr × Obj) → Prop) (xv : Value) (s₁ : Shared) : Prop :=
  ∃ (o : Obj) (n : Nat) (P : Nat → Value → Prop) (St : Nat → Heap → Prop) (news : List (Addr × Obj)),
    (∀ (Q E : Value → Shared → Prop), Q (.ref s₁.heap.objs.size) { s₁ with heap := s₁.heap.push o } → wpAny (model prog w) A (pyIter xv) Q E s₁) ∧
    Walks prog w A s₁.heap.objs.size [s₁.heap.objs.size] [s₁.heap.objs.size] n P St ∧ (∀ i h, St i h → ∃ o, h.get? s₁.heap.objs.size = some o) ∧ St 0 (s₁.heap.push o) ∧ n ≤ sizeLine ∧
    Fr h₀ L s₁.heap m ∧ News h₀ L s₁.heap news ∧ ∀ s₂ : Shared, (∃ h, s₂ = { s₁ with heap := h }) → LCg.CompRest prog w A h₀ L m env elt x scope cl s₂ (fun _ => True) P (Fin s₂) n 0 [] news
theorem ListComp_I {elt iter : Expr} {x : PySem.Str} {px : Pos} {scope : Scope} {cl : List (PySem.Str × Addr)} {pos : Pos} {Q : Value → Shared → Prop} (_F₀ : Fr h₀ L s.heap m)
    (hclos : closureFor scope env = pure cl) (hcell : ∀ y ∈ scope.names, y.2 ≠ .cell) (hkind : scope.kind = .function)
    (hnames : ∀ y ∈ scope.names, y.2 = .local → scope.names.lookup y.1 = some .local) (hx : scope.names.lookup x = some .local)
    (h : wpAny (model prog w) A (eval iter env) (CompSrcI prog w A h₀ L m env elt x scope cl (fun s₂ => LCg.FinE h₀ L m s₂ Q)) E s)
    (hs : ∀ x, foldedSetIterable iter env x = pure x := by intro _; rfl) :
    wpAny (model prog w) A (eval (.ListComp elt [⟨.Name x px, iter, [], 0⟩] scope pos) env) Q E s := by
  rw [eval_ListComp]
  refine wpAny_comprehension_free (use := none) rfl hs hclos hkind hnames (wpAny_mono h (fun xv s₁ h₁ => ?_) fun _ _ e => e)
  obtain ⟨o, n, P, St, news, hpy, W, hIo, h0, hsz, F, N, R⟩ := h₁
  refine hpy _ _ ?_
  refine LCg.block_U W hsz hIo (fun i h h' o nw st e e' _ _ _ => W.frame _ _ _ st fun b hb o' eo => ?_) hcell hkind hx h0 (fun b hb => ?_)
    (F.keeps fun _ _ e => Heap.get?_push_of_some _ e) (N.grown fun _ _ e => Heap.get?_push_of_some _ e) (Nat.ne_of_lt F.ns.lt) (next_is_new F) (fun p hp => Nat.ne_of_lt (Heap.lt_size (N p hp).1)) trivial (R _ ⟨_, rfl⟩) ?_
  · rw [List.mem_singleton.mp hb] at eo ⊢
    rw [e] at eo
    rw [← eo]
    exact e'
  · rw [List.mem_singleton.mp hb]
    show s₁.heap.objs.size < (s₁.heap.push _).objs.size
    rw [Heap.size_push]; exact Nat.lt_succ_self _
  · intro D C h tk m' ys news' F' N' o1 hn hC₀ hD₀ hCL hDL hCD offC fin
    refine ⟨m', hn, fun h'' hs'' => fin D h'' tk (F'.change hs'' hCL hC₀) (fun p hp => ?_) o1⟩
    refine ⟨hs''.extBut _ _ ?_ (N' p hp).1, (N' p hp).2⟩
    rcases List.mem_cons.mp hp with rfl | hp
    · exact Ne.symm hCD
    · exact offC p hp
theorem src_bytes {elt : Expr} {x : PySem.Str} {scope : Scope} {cl : List (PySem.Str × Addr)} {Fin : Shared → List Value → List (Addr × Obj) → Prop} {b : Array UInt8} {t : Tok} {news : List (Addr × Obj)} {s₁ : Shared}
    (hh : A.handled = none) (F : Fr h₀ L s₁.heap m) (N : News h₀ L s₁.heap news) (hsz : b.size ≤ sizeLine)
    (h : ∀ g, LCg.CompRest prog w A h₀ L m env elt x scope cl { s₁ with heap := g } (fun _ => True) (fun i v => ∃ c u, b[i]? = some c ∧ v = .int (c.toNat : Int) u) (Fin { s₁ with heap := g }) b.size 0 [] news) :
    CompSrcI prog w A h₀ L m env elt x scope cl Fin (.bytes b t) s₁ :=
  ⟨_, b.size, _, fun i h => KBw.IsBytesIter h s₁.heap.objs.size b t i, news, fun _ _ q => KBw.pyIter_bytes q, KBw.walks hh _ b t, fun _ _ st => let ⟨o, ho, _⟩ := st; ⟨o, ho⟩, ⟨_, Heap.get?_push_size _ rfl, rfl, rfl⟩, hsz, F, N, fun _ ⟨g, e⟩ => e ▸ h g⟩
theorem src_str {elt : Expr} {x : PySem.Str} {scope : Scope} {cl : List (PySem.Str × Addr)} {Fin : Shared → List Value → List (Addr × Obj) → Prop} {z : PySem.Str} {t : Tok} {news : List (Addr × Obj)} {s₁ : Shared}
    (hh : A.handled = none) (F : Fr h₀ L s₁.heap m) (N : News h₀ L s₁.heap news) (ha : z.cps.all (· < 128) = true) (hsz : z.cps.size ≤ sizeLine)
    (h : ∀ g, LCg.CompRest prog w A h₀ L m env elt x scope cl { s₁ with heap := g } (fun _ => True) (SignAt z) (Fin { s₁ with heap := g }) z.cps.size 0 [] news) :
    CompSrcI prog w A h₀ L m env elt x scope cl Fin (.str z t) s₁ :=
  ⟨_, z.cps.size, _, fun i h => h.IsStrIter s₁.heap.objs.size "str_ascii_iterator" z t i, news, fun _ _ q => wpAny_pyIter_ascii ha q, Walks.strAscii hh _ z t, fun _ _ st => let ⟨o, ho, _⟩ := st; ⟨o, ho⟩, ⟨_, Heap.get?_push_size _ rfl, rfl, rfl⟩, hsz, F, N, fun _ ⟨g, e⟩ => e ▸ h g⟩
/-- the turns of a comprehension whose elements are texts -/
theorem comp_rest {elt : Expr} {x : PySem.Str} {scope : Scope} {cl : List (PySem.Str × Addr)} {S : List (Addr × Obj) → Prop} {P : Nat → Value → Prop} {Fin : List Value → List (Addr × Obj) → Prop} {news : List (Addr × Obj)} {α : Type} {n : Nat} {ks : List α} (val : α → Tok → Value) (g : α → PySem.Str) (hks : ks.length = n) (hP : ∀ i v, i < n → P i v → ∃ k t, ks[i]? = some k ∧ v = val k t)
    (turn : ∀ k t I oI C oC D m₂ ys h tk (E' : Value → Shared → Prop), k ∈ ks → LCg.NsObj oC m₂ → m₂ x = some (val k t) → Fr h₀ L h m → News h₀ L h ((I, oI) :: (C, oC) :: (D, LCg.lst ys) :: news) → LCg.Off3 I C D news → ((@Ne Nat I C) ∧ (@Ne Nat I D) ∧ (@Ne Nat C D)) →
      wpAny (model prog w) A (eval elt (compEnvC scope cl C env)) (LCg.CompEnd h₀ L m { s with heap := h, toks := tk } I oI C oC D (LCg.lst ys) S (fun y news' => KCtEl news (g k) y news')) E' { s with heap := h, toks := tk })
    (fin : ∀ ys, CarriedAll ys (ks.map fun k => PyData.str (g k)) → ks.length = n → Fin ys news) : LCg.CompRest prog w A h₀ L m env elt x scope cl s S P Fin n 0 [] news := by
  have key : ∀ (j i : Nat) (ys : List Value), i + j = n → StrsAre ys ((ks.take i).map g) → LCg.CompRest prog w A h₀ L m env elt x scope cl s S P Fin j i ys news := by
    intro j
    induction j with
    | zero =>
      intro i ys hi hy
      have e : i = ks.length := by omega
      subst e
      rw [List.take_length] at hy
      have hc := hy.carried
      rw [List.map_map] at hc
      exact LCg.CompRest.zero (fin ys hc hks)
    | succ j ih =>
      intro i ys hi hy
      refine LCg.CompRest.succ ?_
      intro v I oI C oC D m₂ h tk E' hv hC hx F N off ne
      obtain ⟨k, t, hk, hv'⟩ := hP i v (by omega) hv
      rw [hv'] at hx
      refine wpAny_mono (turn k t I oI C oC D m₂ ys h tk E' (List.mem_of_getElem? hk) hC hx F N off ne) (fun y s₂ hq => ?_) fun _ _ e => e
      obtain ⟨h', tk', nw, e, F', N', off', hS, hn, t', hy'⟩ := hq
      rw [hn] at N' off' hS
      refine ⟨h', tk', news, e, F', N', off', hS, ?_⟩
      rw [hy']
      refine ih (i + 1) _ (by omega) ?_
      rw [List.take_add_one, hk]
      simpa using kct_snoc hy
  exact key n 0 [] (by omega) (by simp only [List.take_zero, List.map_nil]; exact .nil)
end
def txt (os : List Int) : PySem.Str := ⟨(os.map Int.toNat).toArray⟩
def sgn (c : Int) : PySem.Str := ⟨#[c.toNat]⟩
theorem txt_fold : ∀ (os : List Int) (acc : Array Nat), (os.map sgn).foldl (fun acc p => acc ++ (PySem.Str.ofString "").cps ++ p.cps) acc = acc ++ (os.map Int.toNat).toArray
  | [], acc => by simp
  | c :: os, acc => by
    rw [List.map_cons, List.foldl_cons, txt_fold os]
    have e : (PySem.Str.ofString "").cps = #[] := by decide
    rw [e]
    apply Array.toList_inj.mp
    simp [sgn]
theorem txt_join (os : List Int) : PySem.Txt.join (PySem.Str.ofString "") (os.map sgn) = txt os := by
  show Builtin.Str.glued (PySem.Str.ofString "") (os.map sgn) = txt os
  unfold Builtin.Str.glued txt
  cases os with
  | nil => decide
  | cons c os =>
    rw [List.map_cons, List.drop_succ_cons, List.drop_zero, txt_fold]
    congr 1
    apply Array.toList_inj.mp
    simp [sgn]
theorem no_beyond {os : List Int} {i : Int} (ha : ∀ x ∈ os, 0 ≤ x ∧ x ≤ 127) (h0 : 0 ≤ i) (h1 : i < os.length) (h : 127 < os.getD i.toNat 0) : False := by
  have hl : i.toNat < os.length := by omega
  have e : os.getD i.toNat 0 = os[i.toNat] := by simp [List.getD, hl]
  rw [e] at h
  have := (ha _ (List.getElem_mem hl)).2
  omega
theorem small_n {n : Nat} (h : n ≤ 1000) : Builtin.Range.small 0 (n : Int) 1 = true := small_one (by omega) (by omega) (by omega) (by omega)
theorem kst_plain2 {h₀ h : Heap} {L : Addr} {x : PySem.Str} {v : PySem.Str → Option Value} {u m : PySem.Str → Option Value} (F : Fr h₀ L h (fun y => if y = x then v y else kstB (fun z => if ([] : List PySem.Str).contains z then u z else m z) [] y)) : Fr h₀ L h (fun y => if y = x then v y else m y) := F
theorem kst_plain {h₀ h : Heap} {L : Addr} {x : PySem.Str} {v : Option Value} {u m : PySem.Str → Option Value} (F : Fr h₀ L h (fun y => if y = x then v else kstB (fun z => if ([] : List PySem.Str).contains z then u z else m z) [] y)) : Fr h₀ L h (fun y => if y = x then v else m y) := F
end
section
open PySem PySem.W PyProof.Rows PySem.Calls
theorem ascii_c (w : World) {ob : Array UInt8} {tb : Tok} {os : List Int} (hos : KBw.bInts ob = os) (hol : os.length ≤ 1000) (ha : ∀ x ∈ os, 0 ≤ x ∧ x ≤ 127) :
    GivesP w 112 9 [.bytes ob tb] (fun v => ∃ t, v = .str (txt os) t) := by
  k_with_none
  k_with "compareOp NotIn int bytes" => (k_here; (with_reducible show wpAny _ _ (compareOp CmpOp.NotIn (Value.int _ _) (Value.bytes _ _)) _ _ _); refine notin_bytes ?_ ?_ rfl ?_; (first | assumption | omega); (first | assumption | omega))
  k_with "compareOp In int bytes" => (k_here; (with_reducible show wpAny _ _ (compareOp CmpOp.In (Value.int _ _) (Value.bytes _ _)) _ _ _); refine in_bytes ?_ ?_ rfl ?_; (first | assumption | omega); (first | assumption | omega))
  k_with "call ref" => (k_here; (with_reducible show wpAny _ _ (call (Value.ref 71) _) _ _ _); k_dflt (refine' excCall_c _ (fault71 _) (by k_asm) (by k_asm) (by k_asm) (by k_asm) (by k_asm) (by first | exact rfl | assumption) (by ktr_room) (by ktr_units) ?_; k_whole; intro e9 t9 d9 h9 tk9 F9 N9 n1 n2 n3; (try k_sweep); (try dsimp only); (try k_fold)))
  k_with "call ref" => (k_here; (with_reducible show wpAny _ _ (call (Value.ref 83) _) _ _ _); k_dflt (refine' excCall_c _ (fault83 _) (by k_asm) (by k_asm) (by k_asm) (by k_asm) (by k_asm) (by first | exact rfl | assumption) (by ktr_room) (by ktr_units) ?_; k_whole; intro e9 t9 d9 h9 tk9 F9 N9 n1 n2 n3; (try k_sweep); (try dsimp only); (try k_fold)))
  k_with "exec Raise some none" => (k_here; refine raise_any rfl ?_)
  k_with "RaiseEnd" => (k_here; refine' raiseEnd_K (by k_asm) (by k_asm) (by k_asm) (by first | exact fault71 _ | exact fault83 _) ?_)
  k_with "leaving ref" => (k_here; k_dflt (first | (refine' leave_raiseL (by k_asm) (by k_asm) (by k_asm) (by assumption) (by assumption) (by assumption) ?_; intro h9 S9 U9) | (refine' leave_onS (by assumption) (by assumption) (by assumption) (by assumption) ?_; intro h9 S9 S9' U9)))
  k_with "CompEnd" => (refine LCg.CompEnd.intro (by assumption) (by assumption) _ (fun p hp => hp) (by assumption) trivial ?_)
  k_with "eval ListComp" => (k_here; k_dflt (refine ListComp_I (by k_asm) (by with_unfolding_all rfl) (by decide) (by rfl) (by decide) (by rfl) ?_))
  k_with "CompSrcI" => (refine src_bytes (by rfl) (by k_asm) (by k_asm) (by rw [← KBw.ints_length, hos, sizeLine_eq]; omega) ?_; intro g'; refine comp_rest (ks := os) (fun k t => .int k t) sgn (by rw [← hos]; exact KBw.ints_length _) (by rintro i v hi ⟨c, u, hc, rfl⟩; exact ⟨_, u, by rw [← hos]; exact KBw.ints_get hc, rfl⟩) (fun k' t' I' oI' C' oC' D' m' ys' h' tk' E' hk' hC' hx' F' N' off' ne' => ?_) (fun ys9 hc9 hl9 => ?_); (all_goals (try (simp only [LCg.Off3, and_true] at off'))); (all_goals (try (have hb9 := ha _ hk'))))
  k_with "exec For Name Call cons nil" => (k_here; (rename Fr _ _ _ _ => lF'); (with_unfolding_all refine' For_invVF lF' (by exact rfl) (by exact rfl) ?_; k_whole))
  k_with "pyIter ref" => (k_here; (rename Fr _ _ _ _ => lF9); (rename News _ _ _ _ => lN9); with_unfolding_all refine kst_range (n := os.length) (fun _ : Unit => news) (fun _ => []) (fun _ => True) [] (fun _ _ => True) () (by rfl) (by assumption) (small_n hol) (by exact rangeSize_nat _ _) lF9 lN9 trivial (fun _ hp => absurd hp List.not_mem_nil) trivial ?_ ?_; (all_goals clear lF9 lN9); (rintro - pre9 k9 t9 u9 h9 tk9 own9 hk9 hp9 - - - F9 N9; replace F9 := kst_plain F9; (try dsimp only at N9)); rotate_left; (rintro - u9 h9 tk9 - - F9 N9; replace F9 := kst_plain2 F9; (try dsimp only at N9)); rotate_right)
  k_with "InvEndN" => (refine kst_end () (by assumption) (by assumption) (fun p hp => List.mem_append_left _ hp) (fun p hp => List.mem_append_right _ hp) rfl trivial (fun p hp => absurd hp List.not_mem_nil) (fun z hz _ _ => if_neg hz) trivial)
  k_with "KCtEl" => (refine kct_el ?_ rfl rfl; first | rfl | (rw [e8]; rfl))
  k_with "call ref" => (k_here; (with_reducible show wpAny _ _ (call (Value.ref 59) _) _ _ _); exfalso; (rename (127 : Int) < _ => hg7); refine no_beyond ha ?_ ?_ hg7 <;> omega)
  intro mean mg mb dp un gd cn cs a ccd cl outer A₀ base h₀ L m s Q E news B F X N T hk hdp hun ret
  refine wpAny_call ?_
  k_dflt ktr_enter
  k_steps
  exact ret _ _ _ ⟨_, congrArg (Value.str · _) (txt_join os)⟩ (by assumption) (by rename News _ _ _ _ => N9; exact fun p hp => N9 p (List.mem_cons_of_mem _ hp))
end
section
open PySem PySem.W PyProof.Rows PySem.Calls
def lowZ (c : Int) : Int := if 65 ≤ c ∧ c ≤ 90 then c + 32 else c
theorem lowZ_bnd {c : Int} (h : 0 ≤ c ∧ c ≤ 127) : 0 ≤ lowZ c ∧ lowZ c ≤ 127 := by
  unfold lowZ
  split <;> omega
theorem txt_size (os : List Int) : (txt os).cps.size = os.length := by simp [txt]
theorem txt_ascii {os : List Int} (ha : ∀ x ∈ os, 0 ≤ x ∧ x ≤ 127) : (txt os).cps.all (· < 128) = true := by
  simp only [txt, List.all_toArray, List.all_eq_true, List.mem_map, decide_eq_true_eq]
  rintro x ⟨c, hc, rfl⟩
  have := ha c hc
  omega
theorem txt_sign {os : List Int} {i : Nat} {v : Value} (h : SignAt (txt os) i v) : ∃ k t, os[i]? = some k ∧ v = .str (sgn k) t := by
  obtain ⟨c, u, hc, rfl⟩ := h
  have h2 : (os.map Int.toNat)[i]? = some c := by simpa [txt] using hc
  rw [List.getElem?_map] at h2
  cases e : os[i]? with
  | none => rw [e] at h2; cases h2
  | some k =>
    rw [e] at h2
    simp only [Option.map_some, Option.some.injEq] at h2
    exact ⟨k, u, rfl, by rw [← h2]; rfl⟩
theorem lower_code_c (w : World) (c : Int) (t : Tok) :
    GivesP w 92 1 [.int c t] (fun v => ∃ t', v = .int (lowZ c) t') := by
  k_with_none
  k_with "compareOp NotIn int bytes" => (k_here; (with_reducible show wpAny _ _ (compareOp CmpOp.NotIn (Value.int _ _) (Value.bytes _ _)) _ _ _); refine notin_bytes ?_ ?_ rfl ?_; (first | assumption | omega); (first | assumption | omega))
  k_with "compareOp In int bytes" => (k_here; (with_reducible show wpAny _ _ (compareOp CmpOp.In (Value.int _ _) (Value.bytes _ _)) _ _ _); refine in_bytes ?_ ?_ rfl ?_; (first | assumption | omega); (first | assumption | omega))
  k_with "call ref" => (k_here; (with_reducible show wpAny _ _ (call (Value.ref 71) _) _ _ _); k_dflt (refine' excCall_c _ (fault71 _) (by k_asm) (by k_asm) (by k_asm) (by k_asm) (by k_asm) (by first | exact rfl | assumption) (by ktr_room) (by ktr_units) ?_; k_whole; intro e9 t9 d9 h9 tk9 F9 N9 n1 n2 n3; (try k_sweep); (try dsimp only); (try k_fold)))
  k_with "call ref" => (k_here; (with_reducible show wpAny _ _ (call (Value.ref 83) _) _ _ _); k_dflt (refine' excCall_c _ (fault83 _) (by k_asm) (by k_asm) (by k_asm) (by k_asm) (by k_asm) (by first | exact rfl | assumption) (by ktr_room) (by ktr_units) ?_; k_whole; intro e9 t9 d9 h9 tk9 F9 N9 n1 n2 n3; (try k_sweep); (try dsimp only); (try k_fold)))
  k_with "exec Raise some none" => (k_here; refine raise_any rfl ?_)
  k_with "RaiseEnd" => (k_here; refine' raiseEnd_K (by k_asm) (by k_asm) (by k_asm) (by first | exact fault71 _ | exact fault83 _) ?_)
  k_with "leaving ref" => (k_here; k_dflt (first | (refine' leave_raiseL (by k_asm) (by k_asm) (by k_asm) (by assumption) (by assumption) (by assumption) ?_; intro h9 S9 U9) | (refine' leave_onS (by assumption) (by assumption) (by assumption) (by assumption) ?_; intro h9 S9 S9' U9)))
  intro mean mg mb dp un gd cn cs a ccd cl outer A₀ base h₀ L m s Q E news B F X N T hk hdp hun ret
  refine wpAny_call ?_
  k_dflt ktr_enter
  k_steps
  · exact ret _ _ _ ⟨_, by unfold lowZ; rw [if_pos ⟨by assumption, by assumption⟩]⟩ (by assumption) (by assumption)
  all_goals exact ret _ _ _ ⟨_, by unfold lowZ; rw [if_neg (by omega)]⟩ (by assumption) (by assumption)
end
section
open PySem PySem.W PyProof.Rows PySem.Calls
theorem lower_text_c (w : World) {os : List Int} {t : Tok} (hol : os.length ≤ 1000) (ha : ∀ x ∈ os, 0 ≤ x ∧ x ≤ 127) :
    GivesP w 102 4 [.str (txt os) t] (fun v => ∃ t', v = .str (txt (os.map lowZ)) t') := by
  k_with_none
  k_with "compareOp NotIn int bytes" => (k_here; (with_reducible show wpAny _ _ (compareOp CmpOp.NotIn (Value.int _ _) (Value.bytes _ _)) _ _ _); refine notin_bytes ?_ ?_ rfl ?_; (first | assumption | omega); (first | assumption | omega))
  k_with "compareOp In int bytes" => (k_here; (with_reducible show wpAny _ _ (compareOp CmpOp.In (Value.int _ _) (Value.bytes _ _)) _ _ _); refine in_bytes ?_ ?_ rfl ?_; (first | assumption | omega); (first | assumption | omega))
  k_with "call ref" => (k_here; (with_reducible show wpAny _ _ (call (Value.ref 71) _) _ _ _); k_dflt (refine' excCall_c _ (fault71 _) (by k_asm) (by k_asm) (by k_asm) (by k_asm) (by k_asm) (by first | exact rfl | assumption) (by ktr_room) (by ktr_units) ?_; k_whole; intro e9 t9 d9 h9 tk9 F9 N9 n1 n2 n3; (try k_sweep); (try dsimp only); (try k_fold)))
  k_with "call ref" => (k_here; (with_reducible show wpAny _ _ (call (Value.ref 83) _) _ _ _); k_dflt (refine' excCall_c _ (fault83 _) (by k_asm) (by k_asm) (by k_asm) (by k_asm) (by k_asm) (by first | exact rfl | assumption) (by ktr_room) (by ktr_units) ?_; k_whole; intro e9 t9 d9 h9 tk9 F9 N9 n1 n2 n3; (try k_sweep); (try dsimp only); (try k_fold)))
  k_with "exec Raise some none" => (k_here; refine raise_any rfl ?_)
  k_with "RaiseEnd" => (k_here; refine' raiseEnd_K (by k_asm) (by k_asm) (by k_asm) (by first | exact fault71 _ | exact fault83 _) ?_)
  k_with "leaving ref" => (k_here; k_dflt (first | (refine' leave_raiseL (by k_asm) (by k_asm) (by k_asm) (by assumption) (by assumption) (by assumption) ?_; intro h9 S9 U9) | (refine' leave_onS (by assumption) (by assumption) (by assumption) (by assumption) ?_; intro h9 S9 S9' U9)))
  k_with "CompEnd" => (refine LCg.CompEnd.intro (by assumption) (by assumption) _ (fun p hp => hp) (by assumption) trivial ?_)
  k_with "eval ListComp" => (k_here; k_dflt (refine ListComp_I (by k_asm) (by with_unfolding_all rfl) (by decide) (by rfl) (by decide) (by rfl) ?_))
  k_with "KCtEl" => (refine kct_el ?_ rfl rfl; first | rfl | (rw [e8]; rfl))
  k_with "CompSrcI" => (refine src_str (by rfl) (by k_asm) (by k_asm) (txt_ascii ha) (by rw [txt_size, sizeLine_eq]; omega) ?_; intro g'; refine comp_rest (ks := os) (fun k t => .str (sgn k) t) (fun k => sgn (lowZ k)) (txt_size _).symm (fun i v _ hv => txt_sign hv) (fun k' t' I' oI' C' oC' D' m' ys' h' tk' E' hk' hC' hx' F' N' off' ne' => ?_) (fun ys9 hc9 hl9 => ?_); (all_goals (try (simp only [LCg.Off3, and_true] at off'))); (all_goals (try (have hb9 := ha _ hk'; have e8 : (k'.toNat : Int) = k' := Int.toNat_of_nonneg hb9.1; have hb8 := lowZ_bnd (c := (k'.toNat : Int)) (by omega)))))
  k_with "call ref" => (k_here; (with_reducible show wpAny _ _ (call (Value.ref 92) _) _ _ _); k_dflt refine' GivesP.use2 (by k_asm) (by k_asm) (by k_asm) (by k_asm) (by k_asm) (by first | exact rfl | assumption) (by ktr_room) (by ktr_units) (lower_code_c _ _ _ ) ?_; intro v9 h9 tk9 r9 F9 N9; obtain ⟨u9, e9⟩ := r9; subst e9; (try dsimp only); (try k_fold))
  intro mean mg mb dp un gd cn cs a ccd cl outer A₀ base h₀ L m s Q E news B F X N T hk hdp hun ret
  refine wpAny_call ?_
  k_dflt ktr_enter
  k_steps
  refine ret _ _ _ ⟨_, congrArg (Value.str · _) ?_⟩ (by assumption) (by rename News _ _ _ _ => N9; exact fun p hp => N9 p (List.mem_cons_of_mem _ hp))
  rw [← txt_join, List.map_map]
  rfl
end
section
open PySem PySem.W PyProof.Rows PySem.Calls
theorem GivesW.mono {w : World} {f : Addr} {dk : Nat} {wa da : Addr} {D : Int → Tok → Obj} {sl : Array (Option Value)} {i : Int} {xs : List Value} {R R' : Value → Int → Prop} {XC XC' : Addr → Prop} (G : GivesW w f dk wa da D sl i xs R XC) (hR : ∀ v j, R v j → R' v j) (hX : ∀ C, XC C → XC' C) : GivesW w f dk wa da D sl i xs R' XC' := by
  intro mean mg mb dp un gd cn cs a ccd cl outer A₀ base h₀ L m s Q E news upd t2 B F X N T hk hu hm hdp hun ret exc
  exact G mean mg mb dp un gd cn cs a ccd cl outer A₀ base h₀ L m s Q E news upd t2 B F X N T hk hu hm hdp hun (fun v j t2' h' tk' r => ret v j t2' h' tk' (hR v j r)) (fun C e t vs o' g₂ h' tk' x => exc C e t vs o' g₂ h' tk' (hX C x))
theorem skipB_le {ks os : List Int} {i : Int} (h0 : 0 ≤ i) (h1 : i ≤ ks.length) (h : skipB ks i os = true) : i + os.length ≤ ks.length := by
  unfold skipB at h
  have e := congrArg List.length (beq_iff_eq.mp h)
  rw [List.length_take, List.length_drop] at e
  omega
theorem skip_bnd {ks os : List Int} {i j : Int} (h0 : 0 ≤ i) (h1 : i ≤ ks.length) (e : j = if skipB ks i os = true then i + os.length else i) : 0 ≤ j ∧ j ≤ ks.length ∧ i ≤ j := by
  by_cases h : skipB ks i os = true
  · rw [if_pos h] at e
    have := skipB_le h0 h1 h
    omega
  · rw [if_neg h] at e
    omega
theorem need_lit (os : List Int) (n : Int) (w : World) {wa da : Addr} {sl : Array (Option Value)} {k1 k2 t1 : Nat} {data : Array UInt8} {ks : List Int} {i : Int} {ob : Array UInt8} {tb tm : Tok} {msg : PySem.Str} (hks : KBw.bInts data = ks) (hlen : ks.length ≤ 1000) (h0 : 0 ≤ i) (h1 : i ≤ ks.length) (hos : KBw.bInts ob = os) (hn : (os.length : Int) = n) (hol : os.length ≤ 1000) :
    GivesW w 239 5 wa da (wireD w k1 k2 data t1) sl i [.bytes ob tb, .str msg tm] (fun v j => v = .none ∧ skipB ks i os = true ∧ j = i + n ∧ i + n ≤ ks.length) (fun C => C = 71 ∧ skipB ks i os = false) := by
  subst hn
  exact (need_c w hks hlen h0 h1 hos hol).mono (fun v j ⟨a, b, c⟩ => ⟨a, b, c, skipB_le h0 h1 b⟩) (fun C h => h)
theorem skip_lit (os : List Int) (n : Int) (w : World) {wa da : Addr} {sl : Array (Option Value)} {k1 k2 t1 : Nat} {data : Array UInt8} {ks : List Int} {i : Int} {ob : Array UInt8} {tb : Tok} (hks : KBw.bInts data = ks) (hlen : ks.length ≤ 1000) (h0 : 0 ≤ i) (h1 : i ≤ ks.length) (hos : KBw.bInts ob = os) (hn : (os.length : Int) = n) (hol : os.length ≤ 1000) :
    GivesW w 232 1 wa da (wireD w k1 k2 data t1) sl i [.bytes ob tb] (fun v j => v = .bool (skipB ks i os) ∧ j = (if skipB ks i os = true then i + n else i) ∧ 0 ≤ j ∧ j ≤ ks.length) (fun C => False) := by
  subst hn
  refine (skip_c w hks hlen h0 h1 hos hol).mono (fun v j ⟨a, b⟩ => ⟨a, b, ?_⟩) (fun C h => h)
  have := skip_bnd h0 h1 b
  exact ⟨this.1, this.2.1⟩
def litP (ks : List Int) (i : Int) : Option (List Int × Int) :=
  if skipB ks i [123] = true then
    if 0 < (runOf figB ks (i + 1)).length ∧ (runOf figB ks (i + 1)).length ≤ 10 then
      let i2 := i + 1 + (runOf figB ks (i + 1)).length
      let i3 := if skipB ks i2 [43] = true then i2 + 1 else i2
      if skipB ks i3 [125, 13, 10] = true then
        if i3 + 3 + numZ (runOf figB ks (i + 1)) ≤ ks.length then some ((ks.drop (i3 + 3).toNat).take (numZ (runOf figB ks (i + 1))).toNat, i3 + 3 + numZ (runOf figB ks (i + 1))) else none
      else none
    else none
  else none
theorem numZ_fold : ∀ (l : List Int) (n : Int), 0 ≤ n → (∀ c ∈ l, 48 ≤ c) → 0 ≤ l.foldl (fun n c => n * 10 + c - 48) n
  | [], n, h, _ => h
  | c :: l, n, h, hl => by
    rw [List.foldl_cons]
    have := hl c List.mem_cons_self
    exact numZ_fold l _ (by omega) fun x hx => hl x (List.mem_cons_of_mem _ hx)
theorem numZ_run (ks : List Int) (i : Int) : 0 ≤ numZ (runOf figB ks i) :=
  numZ_fold _ _ (Int.le_refl 0) fun c hc => by
    have : figB c = true := List.all_eq_true.mp (List.all_takeWhile (p := figB) (l := ks.drop i.toNat)) c hc
    unfold figB at this
    exact (of_decide_eq_true this).1
end
section
open PySem PySem.W PyProof.Rows PySem.Calls
theorem litP_no1 {ks : List Int} {i : Int} (h : skipB ks i [123] = false) : litP ks i = none := by
  unfold litP
  rw [if_neg (by rw [h]; exact Bool.false_ne_true)]
theorem litP_no2 {ks : List Int} {i : Int} (h : skipB ks i [123] = true) (h2 : ¬ (0 < (runOf figB ks (i + 1)).length ∧ (runOf figB ks (i + 1)).length ≤ 10)) : litP ks i = none := by
  unfold litP
  rw [if_pos h, if_neg h2]
theorem litP_no3 {ks : List Int} {i j : Int} (h : skipB ks i [123] = true) (h2 : 0 < (runOf figB ks (i + 1)).length ∧ (runOf figB ks (i + 1)).length ≤ 10) (e : j = if skipB ks (i + 1 + (runOf figB ks (i + 1)).length) [43] = true then i + 1 + (runOf figB ks (i + 1)).length + 1 else i + 1 + (runOf figB ks (i + 1)).length)
    (h3 : skipB ks j [125, 13, 10] = false) : litP ks i = none := by
  unfold litP
  rw [if_pos h, if_pos h2]
  dsimp only
  rw [← e, if_neg (by rw [h3]; exact Bool.false_ne_true)]
theorem litP_no4 {ks : List Int} {i j : Int} (h : skipB ks i [123] = true) (h2 : 0 < (runOf figB ks (i + 1)).length ∧ (runOf figB ks (i + 1)).length ≤ 10) (e : j = if skipB ks (i + 1 + (runOf figB ks (i + 1)).length) [43] = true then i + 1 + (runOf figB ks (i + 1)).length + 1 else i + 1 + (runOf figB ks (i + 1)).length)
    (h3 : skipB ks j [125, 13, 10] = true) (h4 : (ks.length : Int) < j + 3 + numZ (runOf figB ks (i + 1))) : litP ks i = none := by
  unfold litP
  rw [if_pos h, if_pos h2]
  dsimp only
  rw [← e, if_pos h3, if_neg (by omega)]
theorem litP_yes {ks : List Int} {i j : Int} (h : skipB ks i [123] = true) (h2 : 0 < (runOf figB ks (i + 1)).length ∧ (runOf figB ks (i + 1)).length ≤ 10) (e : j = if skipB ks (i + 1 + (runOf figB ks (i + 1)).length) [43] = true then i + 1 + (runOf figB ks (i + 1)).length + 1 else i + 1 + (runOf figB ks (i + 1)).length)
    (h3 : skipB ks j [125, 13, 10] = true) (h4 : ¬ (ks.length : Int) < j + 3 + numZ (runOf figB ks (i + 1))) : litP ks i = some ((ks.drop (j + 3).toNat).take (numZ (runOf figB ks (i + 1))).toNat, j + 3 + numZ (runOf figB ks (i + 1))) := by
  unfold litP
  rw [if_pos h, if_pos h2]
  dsimp only
  rw [← e, if_pos h3, if_pos (by omega)]
theorem lit_slice {ks : List Int} {j n : Int} (h0 : 0 ≤ j) (hn : 0 ≤ n) (h1 : ¬ (ks.length : Int) < j + n) : (ks.drop (clipAt ks.length j)).take (clipAt ks.length (j + n) - clipAt ks.length j) = (ks.drop j.toNat).take n.toNat := by
  rw [clip_mid h0 (by omega), clip_mid (by omega) (by omega)]
  congr 1
  omega
theorem literal_c (w : World) {wa da : Addr} {sl : Array (Option Value)} {k1 k2 t1 : Nat} {data : Array UInt8} {ks : List Int} {i : Int} (hks : KBw.bInts data = ks) (hlen : ks.length ≤ 1000) (h0 : 0 ≤ i) (h1 : i ≤ ks.length) :
    GivesW w 323 11 wa da (wireD w k1 k2 data t1) sl i [] (fun v j => ∃ os, litP ks i = some (os, j) ∧ ∃ b t, v = .bytes b t ∧ KBw.bInts b = os) (fun C => C = 71 ∧ litP ks i = none) := by
  k_with_none
  k_with "compareOp NotIn int bytes" => (k_here; (with_reducible show wpAny _ _ (compareOp CmpOp.NotIn (Value.int _ _) (Value.bytes _ _)) _ _ _); refine notin_bytes ?_ ?_ rfl ?_; (first | assumption | omega); (first | assumption | omega))
  k_with "compareOp In int bytes" => (k_here; (with_reducible show wpAny _ _ (compareOp CmpOp.In (Value.int _ _) (Value.bytes _ _)) _ _ _); refine in_bytes ?_ ?_ rfl ?_; (first | assumption | omega); (first | assumption | omega))
  k_with "call ref" => (k_here; (with_reducible show wpAny _ _ (call (Value.ref 71) _) _ _ _); k_dflt (refine' excCall_c _ (fault71 _) (by k_asm) (by k_asm) (by k_asm) (by k_asm) (by k_asm) (by first | exact rfl | assumption) (by ktr_room) (by ktr_units) ?_; k_whole; intro e9 t9 d9 h9 tk9 F9 N9 n1 n2 n3; (try k_sweep); (try dsimp only); (try k_fold)))
  k_with "call ref" => (k_here; (with_reducible show wpAny _ _ (call (Value.ref 83) _) _ _ _); k_dflt (refine' excCall_c _ (fault83 _) (by k_asm) (by k_asm) (by k_asm) (by k_asm) (by k_asm) (by first | exact rfl | assumption) (by ktr_room) (by ktr_units) ?_; k_whole; intro e9 t9 d9 h9 tk9 F9 N9 n1 n2 n3; (try k_sweep); (try dsimp only); (try k_fold)))
  k_with "exec Raise some none" => (k_here; refine raise_any rfl ?_)
  k_with "RaiseEnd" => (k_here; refine' raiseEnd_K (by k_asm) (by k_asm) (by k_asm) (by first | exact fault71 _ | exact fault83 _) ?_)
  k_with "leaving ref" => (k_here; k_dflt (first | (refine' leave_raiseL (by k_asm) (by k_asm) (by k_asm) (by assumption) (by assumption) (by assumption) ?_; intro h9 S9 U9) | (refine' leave_onS (by assumption) (by assumption) (by assumption) (by assumption) ?_; intro h9 S9 S9' U9)))
  k_with "call ref" => (k_here; (with_reducible show wpAny _ _ (call (Value.ref 260) _) _ _ _); k_dflt (refine' GivesW.use2 (D := wireD w _ _ _ _) (by k_asm) (by k_asm) (by k_asm) (by k_asm) (by k_asm) (by first | exact rfl | assumption) (by k_mem) (by (intro o9; k_upd)) (by ktr_room) (by ktr_units) (run_fig_c _ (by assumption) (by first | assumption | omega) (by first | assumption | omega) (by first | assumption | omega)) ?_ (by (intro _ _ _ _ _ _ _ _ x9; exact False.elim x9)); k_whole; intro v9 j9 t9 h9 tk9 r9 F9 N9; obtain ⟨⟨b9, u9, e9, hb9⟩, e9'⟩ := r9; subst e9; subst e9'; (have hl9 := runOf_at hb9 (by assumption) (by first | assumption | omega) (by first | assumption | omega)); have hl8 := hl9.2; (try dsimp only at N9); (try k_sweep); (try dsimp only); (try k_fold)))
  k_with "call ref" => (k_here; (with_reducible show wpAny _ _ (call (Value.ref 196) _) _ _ _); k_dflt refine' GivesP.use2 (by k_asm) (by k_asm) (by k_asm) (by k_asm) (by k_asm) (by first | exact rfl | assumption) (by ktr_room) (by ktr_units) (numfig_c _ (by assumption) (by first | assumption | omega)) ?_; intro v9 h9 tk9 r9 F9 N9; obtain ⟨u9, e9⟩ := r9; subst e9; (try dsimp only); (try k_fold))
  k_with "call ref" => (k_here; (with_reducible show wpAny _ _ (call (Value.ref 232) _) _ _ _); k_dflt (refine' GivesW.use2 (D := wireD w _ _ _ _) (by k_asm) (by k_asm) (by k_asm) (by k_asm) (by k_asm) (by first | exact rfl | assumption) (by k_mem) (by (intro o9; k_upd)) (by ktr_room) (by ktr_units) (skip_lit [43] 1 _ (by assumption) (by first | assumption | omega) (by first | assumption | omega) (by first | assumption | omega) (by exact rfl) (by exact rfl) (by decide)) ?_ (by (intro _ _ _ _ _ _ _ _ x9; exact False.elim x9)); k_whole; intro v9 j9 t9 h9 tk9 r9 F9 N9; obtain ⟨e9, e9', q9⟩ := r9; subst e9; (try dsimp only at N9); (try k_sweep); (try dsimp only); (try k_fold)))
  k_with "call ref" => (k_here; (with_reducible show wpAny _ _ (call (Value.ref 239) _) _ _ _); k_dflt (refine' GivesW.use2 (D := wireD w _ _ _ _) (by k_asm) (by k_asm) (by k_asm) (by k_asm) (by k_asm) (by first | exact rfl | assumption) (by k_mem) (by (intro o9; k_upd)) (by ktr_room) (by ktr_units) (need_lit [123] 1 _ (by assumption) (by first | assumption | omega) (by first | assumption | omega) (by first | assumption | omega) (by exact rfl) (by exact rfl) (by decide)) ?_ ?ke_13; intro v9 j9 t9 h9 tk9 r9 F9 N9; obtain ⟨e9, b9, e9', q9⟩ := r9; subst e9; subst e9'; (try dsimp only at N9); (try k_sweep); (try dsimp only); (try k_fold); rotate_left; intro C9 e9 t9 vs9 o9 g9 h9 tk9 x9 G9 S9 U9; obtain ⟨e9', b9⟩ := x9; subst e9'; (try dsimp only at S9); (try dsimp only); rotate_right))
  k_with "call ref" => (k_here; (with_reducible show wpAny _ _ (call (Value.ref 239) _) _ _ _); k_dflt (refine' GivesW.use2 (D := wireD w _ _ _ _) (by k_asm) (by k_asm) (by k_asm) (by k_asm) (by k_asm) (by first | exact rfl | assumption) (by k_mem) (by (intro o9; k_upd)) (by ktr_room) (by ktr_units) (need_lit [125, 13, 10] 3 _ (by assumption) (by first | assumption | omega) (by first | assumption | omega) (by first | assumption | omega) (by exact rfl) (by exact rfl) (by decide)) ?_ ?ke_14; intro v9 j9 t9 h9 tk9 r9 F9 N9; obtain ⟨e9, b9, e9', q9⟩ := r9; subst e9; subst e9'; (try dsimp only at N9); (try k_sweep); (try dsimp only); (try k_fold); rotate_left; intro C9 e9 t9 vs9 o9 g9 h9 tk9 x9 G9 S9 U9; obtain ⟨e9', b9⟩ := x9; subst e9'; (try dsimp only at S9); (try dsimp only); rotate_right))
  k_with "call type:bytes" => (k_here; (with_reducible show wpAny _ _ (call (Value.type "bytes") [Value.bytes _ _]) _ _ _); refine BA.call_bytes_bytes ?_; intro t9 k9)
  refine givesW_start (fun _ => dict_ne) ?_
  intro mean mg mb dp un gd cn cs a ccd cl outer A₀ base h₀ L m s Q E rest t2 B F X N T hk hr hne hdp hun ret exc
  refine wpAny_call ?_
  k_dflt ktr_enter
  k_steps
  all_goals first
    | exact exc_W exc (by assumption) (by assumption) (by assumption) ⟨rfl, litP_no1 (by assumption)⟩
    | exact exc_W exc (by assumption) (by assumption) (by assumption) ⟨rfl, litP_no2 (by assumption) (by omega)⟩
    | exact exc_W exc (by assumption) (by assumption) (by assumption) ⟨rfl, litP_no3 (by assumption) (by omega) (by assumption) (by assumption)⟩
    | exact exc_W exc (by assumption) (by assumption) (by assumption) ⟨rfl, litP_no4 (by assumption) (by omega) (by assumption) (by assumption) (by assumption)⟩
    | exact ret_W ret (by assumption) (by assumption) ⟨_, litP_yes (by assumption) (by omega) (by assumption) (by assumption) (by assumption), _, _, rfl, (by rename KBw.bInts (KBy.picked _ _ _) = _ => kb; exact kb.trans (lit_slice (by omega) (numZ_run _ _) (by assumption)))⟩
end
section
open PySem PySem.W PyProof.Rows PySem.Calls
namespace BA
section
variable {prog : Program} {w : World} {A : Around} {E : Value → Shared → Prop} {s : Shared}
theorem if_falseN {α : Type} {M : Model} {c : Bool} {a b : Sem α} {Q : α → Shared → Prop} (hc : c = false) (h : wpN M A b Q E s) : wpN M A (if c = true then a else b) Q E s := by
  subst hc
  exact h
theorem if_trueN {α : Type} {M : Model} {c : Bool} {a b : Sem α} {Q : α → Shared → Prop} (hc : c = true) (h : wpN M A a Q E s) : wpN M A (if c = true then a else b) Q E s := by
  subst hc
  exact h
theorem lent_N {M : Model} {a : Addr} {b : Array UInt8} {Q : Bool → Shared → Prop} (ho : s.heap.get? a = some (arr b)) (h : Q false s) : wpN M A (Builtin.Bytes.exported (.ref a) <||> (do return (← Builtin.Bytes.exportsOf (.ref a)) > 0)) Q E s := by
  refine wpN_bind (wpN_exported ?_)
  show wpN _ _ (Builtin.Bytes.exportsOf (.ref a) >>= fun n => pure (decide (n > 0))) _ _ _
  refine wpN_of ?_
  unfold Builtin.Bytes.exportsOf
  exact wpAny_bind (wpAny_bind (wpAny_load ho (wpAny_pure (wpAny_pure h))))
theorem init_N {M : Model} {a : Addr} {b : Array UInt8} {Q : Fin → Shared → Prop} (ho : s.heap.get? a = some (arr b)) (h : Q (.done (.ret .none)) { s with heap := s.heap.update a (Obj.mapBytearray fun _ => #[]) }) :
    wpN M A (Builtin.«bytearray.__init__» ⟨[.ref a], []⟩) Q E s := by
  unfold Builtin.«bytearray.__init__»
  dsimp only
  refine wpN_bindA (release_own ho ?_)
  refine if_falseN rfl ?_
  refine wpN_bindA (wpAny_of_eq bind_init ?_)
  refine wpN_bindA (m := Builtin.Bytes.checkCodecArg _ _ _ none) (wpAny_of_eq (a := ()) rfl ?_)
  refine wpN_bindA (m := Builtin.Bytes.checkCodecArg _ _ _ none) (wpAny_of_eq (a := ()) rfl ?_)
  refine wpN_bind (lent_N ho ?_)
  refine if_falseN rfl ?_
  refine wpN_bindA (m := Builtin.Bytes.write _ _) (wpAny_write ho (Nat.zero_le _) ?_)
  show wpN _ _ (pure (Fin.done (.ret .none))) _ _ _
  exact wpN_pure h
theorem callSpecial_slotN {M : Model} {self : Value} {T : String} {name : PySem.Str} {id : String} {args : List Value} {kw : List (PySem.Str × Value)}
    {Q : Option Value → Shared → Prop} (hT : s.TypeIs self T) (h : Slot T name id)
    (hc : wpN M A (call (.builtin id) (self :: args) kw) (fun v => Q (some v)) E s) : wpN M A (callSpecial? self name args kw) Q E s := by
  simp only [callSpecial?]
  refine wpN_bindA (wpAny_specialOf hT h.lookup ?_)
  simp only [h.bind]
  exact wpN_holding (wpN_bindA (wpAny_pure (wpN_bind (wpN_mono hc (fun v s' h' => wpN_pure h') fun _ _ h' => h'))))
theorem call_arr_N {Q : Value → Shared → Prop} (h : Q (.ref s.heap.objs.size) { s with heap := (s.heap.push (arr #[])).update s.heap.objs.size (Obj.mapBytearray fun _ => #[]) }) : wpN (model prog w) A (call (.type "bytearray") []) Q E s := by
  obtain ⟨c, tl, hmro⟩ := called.mro
  have hmade := called.made
  have hsub := called.sub
  refine wpN_call (codeN_of_tree rfl ?_)
  show wpN _ _ (again (.builtin "type.__call__" ⟨[.type "bytearray"], []⟩)) _ _ s
  refine wpN_pure ⟨Code.quiet_builtin _ (by decide +kernel), codeN_builtin (by show (!heldIds.contains "type.__call__") = true; decide +kernel) F.entry_type_call ?_⟩
  rw [Around.under_plain (weight_type_call_type "bytearray" [] []) rfl]
  unfold Builtin.«type.__call__»
  dsimp only
  refine if_falseN (by decide) ?_
  refine if_falseN called.canCreate ?_
  refine wpN_bindA (wpAny_of_eq typeCall ?_)
  refine wpN_bindA (wpAny_of_eq hmro ?_)
  refine if_falseN rfl ?_
  refine wpN_bindA (wpAny_of_eq hmade ?_)
  show wpN _ _ (pure (Value.builtin "bytearray.__new__") >>= _) _ _ _
  refine wpN_bindA (wpAny_pure ?_)
  refine wpN_bindA (wpAny_holding (wpAny_call (codeAny_mono (code_new (E := E) (Q₁ := fun v s' => v = .ref s.heap.objs.size ∧ s' = { s with heap := s.heap.push (arr #[]) }) ⟨rfl, rfl⟩) fun r s' hr => ?_)))
  have key : wpN (model prog w) A.in1 (isInstance (.ref s.heap.objs.size) (.type "bytearray") >>= fun r => if (!r) = true then (do rule "type.call.new-gave-other-type"; ret (.ref s.heap.objs.size)) else (do
      match ← holding [.ref s.heap.objs.size] (callSpecial? (.ref s.heap.objs.size) "__init__" [] []) with
      | none => ret (.ref s.heap.objs.size)
      | some r =>
        if r != .none then
          rule "type.call.init-returned-value"
          raiseError "TypeError" s!"__init__() should return None, not '{← typeNameOf r}'"
        ret (.ref s.heap.objs.size))) (fun fin s' => match fin with | .done f => (fun r s' => match r with | Except.ok (Flow.ret v) => Q v s' | Except.ok _ => False | Except.error e => E e s') (.ok f) s' | .again c' => c'.quiet = true ∧ codeN (model prog w) A c' (fun r s' => match r with | Except.ok (Flow.ret v) => Q v s' | Except.ok _ => False | Except.error e => E e s') s') (fun e s' => E e s') { s with heap := s.heap.push (arr #[]) } := by
    have ho : ({ s with heap := s.heap.push (arr #[]) } : Shared).heap.get? s.heap.objs.size = some (arr #[]) := Heap.get?_push_size _ rfl
    have hT : ({ s with heap := s.heap.push (arr #[]) } : Shared).TypeIs (.ref s.heap.objs.size) "bytearray" := ⟨_, ho, rfl⟩
    refine wpN_bindA (wpAny_isInstance hT sub_self ?_)
    refine if_falseN rfl ?_
    refine wpN_bind (wpN_holding (callSpecial_slotN hT slot_init (wpN_call (codeN_of_tree rfl ?_))))
    show wpN _ _ (do checkBuiltinCall "bytearray.__init__" ⟨[.ref s.heap.objs.size], []⟩; again (.builtin "bytearray.__init__" ⟨[.ref s.heap.objs.size], []⟩)) _ _ _
    refine wpN_bindA (slot_init.check _ _ _ _ _ _ _ _ hT (args_init _) ?_)
    refine wpN_pure ⟨plainId_quiet slot_init.plain _, codeN_builtin (by show (!heldIds.contains "bytearray.__init__") = true; decide +kernel) entry_init ?_⟩
    refine init_N ho ?_
    show wpN _ _ (pure (Fin.done (.ret (.ref s.heap.objs.size)))) _ _ _
    exact wpN_pure h
  cases r with
  | error e => exact hr
  | ok fl =>
    cases fl with
    | ret obj =>
      obtain ⟨rfl, rfl⟩ := hr
      exact key
    | _ => exact hr.elim
end
end BA
end
section
open PySem PySem.W PyProof.Rows PySem.Calls
section
variable {M : Model} {A : Around} {E : Value → Shared → Prop} {s : Shared} {env : Env}
theorem N_execs_cons {st : Stmt} {rest : List Stmt} {Q : Flow → Shared → Prop}
    (h : wpN M A (exec st env) (fun f s' => match f with | .next => wpN M A (execs rest env) Q E s' | f => Q f s') E s) : wpN M A (execs (st :: rest) env) Q E s := fun Γ p hΓ h1 h2 => by
  rw [execs_cons, Sem.wp_bind']
  refine Sem.wp_mono M Γ _ (fun f p' s' h' => ?_) (fun _ _ _ h' => h') _ _ (h Γ p hΓ h1 h2)
  cases f <;> first | exact h' Γ p' hΓ h1 h2 | exact h'
theorem N_execs_consA {st : Stmt} {rest : List Stmt} {Q : Flow → Shared → Prop}
    (h : wpAny M A (exec st env) (fun f s' => match f with | .next => wpN M A (execs rest env) Q E s' | f => Q f s') E s) : wpN M A (execs (st :: rest) env) Q E s := N_execs_cons (wpN_of h)
theorem N_execs_nil {Q : Flow → Shared → Prop} (h : Q .next s) : wpN M A (execs [] env) Q E s := wpN_of (wpAny_execs_nil h)
theorem N_Expr {e : Expr} {pos : Pos} {Q : Flow → Shared → Prop} (h : wpN M A (eval e env) (fun v s' => match v with | .ref _ => False | _ => Q .next s') E s)
    (hi : interactive env = false := by rfl) (hs : swapsWith e none pos.line env = pure false := by rfl) : wpN M A (exec (.Expr e pos) env) Q E s := by
  rw [exec_Expr env e pos hi hs]
  refine wpN_bindA (wpAny_standAt (wpN_bind (wpN_mono h (fun v s' h' => ?_) fun _ _ x => x)))
  have hv : ∀ a, v ≠ .ref a := fun a hva => by subst hva; exact h'
  rw [dropValue_plain hv]
  refine wpN_pure ?_
  cases v <;> first | exact h' | exact (hv _ rfl).elim
theorem N_Assign_Name {x : PySem.Str} {pos' pos : Pos} {value : Expr} {Q : Flow → Shared → Prop}
    (h : wpN M A (eval value env) (fun v s₁ => wpAny M A (storeName env x v) (fun _ => Q .next) E s₁) E s)
    (hs : swapsWith value (some (.Name x pos')) pos.line env = pure false := by rfl) : wpN M A (exec (.Assign [.Name x pos'] value pos) env) Q E s := fun Γ p hΓ h1 h2 => by
  simp only [exec_Assign_Name env x pos' value pos hs, Sem.wp_bind', Sem.wp_cmd_standAt, Sem.wp_bindName, Sem.wp_pure']
  exact Sem.wp_mono M Γ _ (fun v _ s₁ h₁ => h₁ Γ _ hΓ) (fun _ _ _ h' => h') _ _ (h Γ _ hΓ h1 h2)
theorem N_Return {e : Expr} {pos : Pos} {Q : Flow → Shared → Prop} (h : wpN M A (eval e env) (fun v => Q (.ret v)) E s) : wpN M A (exec (.Return (some e) pos) env) Q E s := fun Γ p hΓ h1 h2 => by
  simp only [exec_Return_some, Sem.wp_bind', Sem.wp_cmd_standAt, Sem.wp_pure']; exact h Γ _ hΓ h1 h2
theorem N_If {test : Expr} {body orelse : List Stmt} {pos : Pos} {Q : Flow → Shared → Prop}
    (h : wpAny M A (isTrue test env (eval test env)) (fun b s₂ => if b then wpN M A (execs body env) Q E s₂ else wpN M A (execs orelse env) Q E s₂) E s) : wpN M A (exec (.If test body orelse pos) env) Q E s := fun Γ p hΓ h1 h2 => by
  simp only [exec_If, Sem.wp_bind', Sem.wp_cmd_standAt]
  refine Sem.wp_mono M Γ _ (fun b p₂ s₂ h₂ => ?_) (fun _ _ _ h' => h') _ _ (h Γ _ hΓ)
  cases b <;> exact h₂ Γ p₂ hΓ h1 h2
theorem N_IfExp {test body orelse : Expr} {pos : Pos} {Q : Value → Shared → Prop}
    (h : wpAny M A (isTrue test env (eval test env)) (fun c s₂ => if c then wpN M A (eval body env) Q E s₂ else wpN M A (eval orelse env) Q E s₂) E s) : wpN M A (eval (.IfExp test body orelse pos) env) Q E s := by
  rw [eval_IfExp]
  refine wpN_bindA (wpAny_mono h (fun c s₂ h₂ => ?_) fun _ _ x => x)
  cases c <;> exact h₂
theorem N_Call {func : Expr} {args : List Expr} {pos : Pos} {Q : Value → Shared → Prop}
    (h : wpAny M A (eval func env) (fun f s₁ => wpN M A (callWith pos f [] (backTo pos (starEach args env)) []) Q E s₁) E s)
    (he : eval (.Call func args [] pos) env = (do callWith pos (← eval func env) [] (backTo pos (starEach args env)) (backToKw pos (keywordEach [] env))) := by rfl) : wpN M A (eval (.Call func args [] pos) env) Q E s := by
  rw [he]; exact wpN_bindA h
theorem N_MethodCall {o : Expr} {name : PySem.Str} {apos pos : Pos} {args : List Expr} {pl : Sem Bool} {Q : Value → Shared → Prop}
    (h : wpAny M A (eval o env) (fun ov s₁ => wpAny M A (getMethod ov name pl) (fun fx s₂ => wpN M A (callWith pos fx.1 fx.2 (backTo pos (starEach args env)) []) Q E s₂) E s₁) E s)
    (he : eval (.Call (.Attribute o name apos) args [] pos) env = (do
      let ov ← eval o env
      standAt apos.atName
      let (f, first) ← holding [ov] (getMethod ov name pl)
      callWith pos f first (backTo pos (starEach args env)) []) := by rfl) : wpN M A (eval (.Call (.Attribute o name apos) args [] pos) env) Q E s := by
  rw [he]
  refine wpN_bindA (wpAny_mono h (fun ov s₁ h₁ => wpN_bindA (wpAny_standAt (wpN_bindA (wpAny_holding (wpAny_mono h₁ (fun fx s₂ h₂ => ?_) fun _ _ x => x))))) fun _ _ x => x)
  exact h₂
theorem keep_N {m : Sem Value} {vs : List Value} {Q : Value → Shared → Prop} (h : wpN M A m Q E s) : wpN M A (m.keep vs) Q E s := fun Γ p hΓ h1 h2 => by rw [Sem.wp_keep]; exact h Γ p hΓ h1 h2
theorem callWith_N {f : Value} {first : List Value} {pos : Pos} {P : Heap → Prop} {args : List (Bool × Sem Value)} {keywords : List (Option PySem.Str × Sem Value)} {Q : Value → Shared → Prop} (hplain : (args.any (·.1) || keywords.any (·.1.isNone)) = false)
    (hk : ∀ h, P h → ∃ k, (k = Keeper.frame ∨ k = Keeper.machine ∨ k = Keeper.boundFrame) ∧ Looks M h (keeperOf f) k)
    (h : wpN M A (evalArgs f true args keywords) (fun a s₁ => P s₁.heap ∧ wpN M A (call f (first ++ a.pos) a.kw) Q E s₁) E s) : wpN M A (callWith pos f first args keywords) Q E s := by
  unfold callWith
  refine wpN_bind (wpN_holding (wpN_mono h (fun a s₁ h₁ => wpN_bindA (wpAny_standAt ?_)) fun _ _ x => x))
  obtain ⟨k, hk', L⟩ := hk _ h₁.1
  simp only [hplain]
  refine wpN_bindA (L.here ?_)
  have tail : ∀ {t : Sem Value}, wpN M A t Q E s₁ → wpN M A (t >>= fun r => holding [r] point >>= fun _ => pure r) Q E s₁ :=
    fun ht => wpN_bind (wpN_mono ht (fun r s₂ hr => wpN_of (wpAny_bind (wpAny_holding (wpAny_point (wpAny_pure hr))))) fun _ _ x => x)
  have marked (mk : Value) : wpN M A (callMarked mk f (first ++ a.pos) a.kw) Q E s₁ := by unfold callMarked; exact keep_N h₁.2
  rcases hk' with rfl | rfl | rfl <;> dsimp only <;> first | exact tail h₁.2 | (split <;> first | exact tail h₁.2 | exact tail (marked _))
theorem evalArgs_plainN {f : Value} {x : Sem Value} {rest : List (Bool × Sem Value)} {Q : Args → Shared → Prop}
    (h : wpN M A (spliced ((false, x) :: rest)) (fun vs s' => Q ⟨vs, []⟩ s') E s) : wpN M A (evalArgs f true ((false, x) :: rest) []) Q E s := by
  unfold evalArgs
  show wpN M A (spliced ((false, x) :: rest) >>= _) Q E s
  refine wpN_bind (wpN_mono h (fun vs s' h' => ?_) fun _ _ x => x)
  refine wpN_of (wpAny_holding ?_)
  exact wpAny_bind (wpAny_pure (wpAny_bind (wpAny_pure (wpAny_pure h'))))
theorem callWith_KN {f : Value} {first : List Value} {pos : Pos} {K : Frag} {h₀ : Heap} {e : Expr} {rest : List Expr} {Q : Value → Shared → Prop} (_X : K.In h₀) (hk : keepIn K f = true) (h : wpAny M A (spliced (backTo pos (starEach (e :: rest) env))) (fun vs s₁ => K.In s₁.heap ∧ wpN M A (call f (first ++ vs)) Q E s₁) E s)
    (he : starEach (e :: rest) env = (false, eval e env) :: starEach rest env := by rfl) (hplain : (backTo pos (starEach rest env)).any (·.1) = false := by rfl) :
    wpN M A (callWith pos f first (backTo pos (starEach (e :: rest) env)) []) Q E s := by
  rw [he] at h ⊢
  exact callWith_N (by show ((false || (backTo pos (starEach rest env)).any (·.1)) || false) = false; rw [hplain]; rfl) (keeps_K hk) (evalArgs_plainN (wpN_of h))
theorem callWith_K0N {f : Value} {first : List Value} {pos : Pos} {K : Frag} {Q : Value → Shared → Prop} (X : K.In s.heap) (hk : keepIn K f = true) (h : wpN M A (call f (first ++ [])) Q E s) : wpN M A (callWith pos f first (backTo pos (starEach [] env)) []) Q E s :=
  callWith_N rfl (keeps_K hk) (wpN_of (evalArgs_nil3 ⟨X, h⟩))
theorem spliced_consN {x : Sem Value} {rest : List (Bool × Sem Value)} {Q : List Value → Shared → Prop}
    (h : wpN M A x (fun v s₁ => wpAny M A (spliced rest) (fun vs s₂ => Q (v :: vs) s₂) E s₁) E s) : wpN M A (spliced ((false, x) :: rest)) Q E s := by
  rw [spliced]
  refine wpN_bind (wpN_mono h (fun v s₁ h₁ => ?_) fun _ _ x => x)
  simp only [Bool.false_eq_true, if_false]
  exact wpN_of (wpAny_bind (wpAny_pure (wpAny_bind (wpAny_holding (wpAny_mono h₁ (fun vs s₂ h₂ => wpAny_pure h₂) fun _ _ x => x)))))
/-- a call whose one argument is the hole, of a function of the kept part -/
theorem callWith_arg1N {f : Value} {first : List Value} {pos : Pos} {K : Frag} {h₀ : Heap} {e : Expr} {Q : Value → Shared → Prop} (_X : K.In h₀) (hk : keepIn K f = true) (h : wpN M A (eval e env) (fun v s₁ => K.In s₁.heap ∧ wpAny M A (call f (first ++ [v])) Q E s₁) E s)
    (he : starEach [e] env = [(false, eval e env)] := by rfl) :
    wpN M A (callWith pos f first (backTo pos (starEach [e] env)) []) Q E s := by
  rw [he]
  refine callWith_N rfl (keeps_K hk) (evalArgs_plainN ?_)
  refine spliced_consN ?_
  show wpN M A (eval e env) _ E s
  exact wpN_mono h (fun v s₁ h₁ => spliced_nil ⟨h₁.1, wpN_of h₁.2⟩) fun _ _ x => x
theorem keeps_machine {f : Value} (hf : keeperOf f = pure .machine) (h : Heap) (_ : True) : ∃ k, (k = Keeper.frame ∨ k = Keeper.machine ∨ k = Keeper.boundFrame) ∧ Looks M h (keeperOf f) k := ⟨.machine, .inr (.inl rfl), by rw [hf]; exact .now⟩
theorem callWith_typeN0 {T : String} {pos : Pos} {Q : Value → Shared → Prop} (h : wpN M A (call (.type T) []) Q E s) : wpN M A (callWith pos (.type T) [] (backTo pos (starEach [] env)) []) Q E s :=
  callWith_N (P := fun _ => True) rfl (keeps_machine rfl) (wpN_of (evalArgs_nil3 ⟨trivial, h⟩))
theorem callWith_builtinN {id : String} {first : List Value} {pos : Pos} {e : Expr} {rest : List Expr} {Q : Value → Shared → Prop} (h : wpAny M A (spliced (backTo pos (starEach (e :: rest) env))) (fun vs s₁ => wpN M A (call (.builtin id) (first ++ vs)) Q E s₁) E s)
    (he : starEach (e :: rest) env = (false, eval e env) :: starEach rest env := by rfl) (hplain : (backTo pos (starEach rest env)).any (·.1) = false := by rfl) :
    wpN M A (callWith pos (.builtin id) first (backTo pos (starEach (e :: rest) env)) []) Q E s := by
  rw [he] at h ⊢
  exact callWith_N (P := fun _ => True) (by show ((false || (backTo pos (starEach rest env)).any (·.1)) || false) = false; rw [hplain]; rfl) (keeps_machine rfl) (evalArgs_plainN (wpN_of (wpAny_mono h (fun _ _ q => ⟨trivial, q⟩) fun _ _ x => x)))
end
end
section
open PySem PySem.W PyProof.Rows PySem.Calls
section
variable {prog : Program} {w : World} {A : Around} {E : Value → Shared → Prop} {R : Result → Shared → Prop} {s : Shared}
theorem codeN_func {body : List Stmt} {env : Env}
    (h : wpN (model prog w) (A.deeper env) (execs body env) (fun f s' => R (.ok (.ret (match f with | .ret v => v | _ => .none))) s')
      (fun e s' => wpAny (model prog w) (A.deeper env) (leaving env e) (fun _ s'' => R (.error e) s'') (fun e' s'' => R (.error e') s'') s') s) : codeN (model prog w) A (.func body env) R s := by
  refine codeN_of_tree rfl ?_
  show wpN _ (A.deeper env) (do point; match ← (execs body env).onRaise (leaving env) with | .ret v => ret v | _ => ret .none) _ _ s
  refine wpN_bindA (wpAny_point (wpN_bind (wpN_mono (E := fun e s' => R (.error e) s') (Q := fun f s' => R (.ok (.ret (match f with | .ret v => v | _ => .none))) s') ?_ (fun f s' h' => ?_) fun _ _ h' => h')))
  · intro Γ p hΓ h1 h2
    rw [Sem.wp_onRaise]
    exact Sem.wp_mono _ Γ _ (fun _ _ _ h' => h') (fun e p' s' h' => h' Γ p' hΓ) p s (h Γ p hΓ h1 h2)
  · cases f <;> exact wpN_pure h'
theorem codeN_call_function {a : Addr} {args : Args} {o : Obj} {fd : FuncData} {body : List Stmt} (hroom : A.depth < recursionLimit) (ho : s.heap.get? a = some o)
    (hd' : o.data = .func fd) (hco : fd.scope.isCoroutine = false) (hgen : fd.scope.isGenerator = false) (hbody : fd.body = .stmts body) (hcd : s.heap.CodeRec fd.code fd.qualname)
    (h : wpAny (model prog w) A.in1 (bindArgs fd args) (fun binds s₁ =>
      wpAny (model prog w) A.in1 (newFunctionEnv fd.scope fd.globals fd.closure binds (fd.qualname ++ ".<locals>.") (some a) fd.code none fd.builtins)
        (fun env s₂ => s₂.heap.NoLimit ∧ codeN (model prog w) A (.func body env) R s₂) (fun e s' => R (.error e) s') s₁) (fun e s' => R (.error e) s') s) : codeN (model prog w) A (.call (.ref a) args) R s := by
  refine codeN_of_tree rfl ?_
  show wpN _ A.in1 (callAny (.ref a) args) _ _ s
  simp only [callAny]
  refine wpN_of ?_
  refine wpAny_bind (wpAny_load ho ?_)
  obtain ⟨c, oc, vs, tq, hc, hoc, hdc, hq⟩ := hcd
  simp only [hd', callFunction, hco, hgen, hbody, hc]
  rw [hc] at h
  refine wpAny_bind (m := field (.ref c) 1) (wpAny_field hoc hdc hq (wpAny_bind (wpAny_pure ?_)))
  exact wpAny_bind (wpAny_mono h (fun binds s₁ h₁ => wpAny_bind (wpAny_mono h₁ (fun env s₂ h₂ => wpAny_bind (wpAny_enterFrame h₂.1 hroom
    (wpAny_pure (And.intro rfl h₂.2)))) fun _ _ h' => h')) fun _ _ h' => h')
end
section
variable {prog : Program} {w : World} {A₀ A : Around} {s : Shared} {base h₀ : Heap} {outer : List Env} {L : Addr} {m : PySem.Str → Option Value} {env : Env} {news : List (Addr × Obj)} {K : Frag} {p : Program} {loose : List PySem.Str} {mean : ExcName → Option Value} {mg mb : PySem.Str → Option Value}
  {R : Result → Shared → Prop} {name qual : PySem.Str} {params : Arguments} {body : List Stmt} {scope : Scope} {dV kV doc pm cdv ct oc : Value} {an od : Option Addr} {osl : Array (Option Value)} {f : Addr} {args : Args} {binds : List (PySem.Str × Value)}
theorem code_defN (B : Below A₀ base outer h₀) (F : Fr h₀ L s.heap m) (X₀ : K.In h₀) (N : News h₀ L s.heap news) (T : Top p loose mean mg mb h₀) (hA : A.frames = some (env :: outer)) (hf : env.frame = some L) (hke : env.scope.kind = .function)
    (ho : K.lookup f = some ⟨oc, od, .func (fnOf name qual params body scope dV kV doc pm an cdv ct), osl⟩) (hcd : codeIn K cdv qual = true) (hroom : A.depth < recursionLimit)
    (hbind : BindsTo s (fnOf name qual params body scope dV kV doc pm an cdv ct) args binds) (hloc : ∀ y ∈ binds, scope.names.lookup y.1 = some .local)
    (h : ∀ g L' h₁, Fr h₀ L g m → Fr g L' h₁ (fun y => binds.reverse.lookup y) → News g L' h₁ news → Below A base (env :: outer) g → K.In g → Top p loose mean mg mb g →
      wpN (model prog w) (A.deeper (envOf qual scope L' f cdv)) (execs body (envOf qual scope L' f cdv))
        (fun fl s' => LeaveK h₀ L m g R (match fl with | .ret v => v | _ => .none) s')
        (fun e s' => wpAny (model prog w) (A.deeper (envOf qual scope L' f cdv)) (leaving (envOf qual scope L' f cdv) e) (fun _ s'' => R (.error e) s'') (fun e' s'' => R (.error e') s'') s')
        { s with heap := h₁, toks := s.toks + binds.length })
    (hco : scope.isCoroutine = false) (hgen : scope.isGenerator = false) (hk : scope.kind = .function)
    (hcell : ∀ x ∈ scope.names, x.2 ≠ .cell) : codeN (model prog w) A (.call (.ref f) args) R s := by
  obtain ⟨FG, BG, st, lv⟩ := groundX (R := R) B F N hA hf hke
  have X := X₀.keeps F.keep
  refine codeN_call_function (fd := fnOf name qual params body scope dV kV doc pm an cdv ct) (body := body) hroom (X _ _ ho) rfl hco hgen rfl (codeRec_of X hcd) (hbind _ _ _ _ ?_)
  refine wpAny_newFunctionEnv hcell hloc (fun h₁ hns₀ hsb₀ => ⟨(T.nolimit.keeps F.keep).fresh _ hsb₀, codeN_func ?_⟩) hk
  have hk₁ : ∀ b o, s.heap.get? b = some o → h₁.get? b = some o := fun b o e => hsb₀.extBut b o (Nat.ne_of_lt (Heap.lt_size e)) (Heap.get?_push_of_some _ e)
  exact wpN_mono (h _ s.heap.objs.size h₁ FG ⟨hns₀, fun b o e => hk₁ b o (of_hideAll _ e), Nat.le_of_eq (hideAll_size _ _)⟩
    (fun p hp => ⟨hk₁ _ _ (N p hp).1, Nat.ne_of_lt (Heap.lt_size (N p hp).1), hideAll_none _ (List.mem_map_of_mem hp)⟩) BG (X₀.keeps st) (T.keeps st)) (fun fl s' hl => lv _ _ hl) fun _ _ y => y
theorem code_defCN (B : Below A₀ base outer h₀) (F : Fr h₀ L s.heap m) (X₀ : K.In h₀) (N : News h₀ L s.heap news) (T : Top p loose mean mg mb h₀) (hA : A.frames = some (env :: outer)) (hf : env.frame = some L) (hke : env.scope.kind = .function)
    (ho : K.lookup f = some ⟨oc, od, .func (fnOf name qual params body scope dV kV doc pm an cdv ct), osl⟩) (hcd : codeIn K cdv qual = true) (hroom : A.depth < recursionLimit)
    (hbind : BindsTo s (fnOf name qual params body scope dV kV doc pm an cdv ct) args binds) (hkind : (binds.all fun y => scope.names.lookup y.1 == some .local || scope.names.lookup y.1 == some .cell) = true)
    (hnd : ((cellsFrom 0 scope.names []).map (·.1)).Nodup)
    (h : ∀ g L' h₁ tk cells, Fr h₀ L g m → Fr g L' h₁ (bindL (envOfC qual scope L' f cdv).kindOf binds fun _ => none) → News g L' h₁ (cells ++ news) →
      CellsAre (bindC (envOfC qual scope L' f cdv).kindOf binds fun _ => none) (cellsFrom (L' + 1) scope.names []) cells → Below A base (env :: outer) g → K.In g → Top p loose mean mg mb g → (∀ p ∈ news, p.1 < L') →
      wpN (model prog w) (A.deeper (envOfC qual scope L' f cdv)) (execs body (envOfC qual scope L' f cdv))
        (fun fl s' => LeaveK h₀ L m g R (match fl with | .ret v => v | _ => .none) s')
        (fun e s' => wpAny (model prog w) (A.deeper (envOfC qual scope L' f cdv)) (leaving (envOfC qual scope L' f cdv) e) (fun _ s'' => R (.error e) s'') (fun e' s'' => R (.error e') s'') s')
        { s with heap := h₁, toks := tk })
    (hco : scope.isCoroutine = false) (hgen : scope.isGenerator = false) (hk : scope.kind = .function) : codeN (model prog w) A (.call (.ref f) args) R s := by
  obtain ⟨FG, BG, st, lv⟩ := groundX (R := R) B F N hA hf hke
  have X := X₀.keeps F.keep
  refine codeN_call_function hroom (X _ _ ho) rfl hco hgen rfl (codeRec_of X hcd) (hbind _ _ _ _ ?_)
  refine wpAny_newFunctionEnv_cells hk (kindsX hkind _) fun env' he s' x => ?_
  subst he
  refine ⟨(T.nolimit.keeps F.keep).keeps x.toInCall.keep, codeN_func ?_⟩
  obtain ⟨h₁, tk, rfl, _⟩ := x.done
  have hk₁ := x.toInCall.keep
  obtain ⟨cells, NC, Y⟩ := Cl.news (h₀ := s.heap) (Nat.le_refl _) fun n c hm => ⟨x.cell n c (lookup_of_mem_nodup (cellsFrom_names scope.names 0 (s.heap.objs.size + 1) [] [] rfl ▸ hnd) hm), x.above n c hm⟩
  refine wpN_mono (h _ s.heap.objs.size h₁ tk cells FG ⟨x.toInCall.ns, fun b o e => hk₁ b o (of_hideAll _ e), Nat.le_of_eq (hideAll_size _ _)⟩ (fun p hp => ?_) Y BG (X₀.keeps st) (T.keeps st) (fun p hp => Heap.lt_size (N p hp).1)) (fun fl s' hl => lv _ _ hl) fun _ _ y => y
  rcases List.mem_append.mp hp with hp | hp
  · refine ⟨(NC p hp).1, (NC p hp).2.1, ?_⟩
    cases q : (hideAll s.heap (news.map (·.1))).get? p.1 with
    | none => rfl
    | some o => have := of_hideAll _ q; rw [(NC p hp).2.2] at this; cases this
  · exact ⟨hk₁ _ _ (N p hp).1, Nat.ne_of_lt (Heap.lt_size (N p hp).1), hideAll_none _ (List.mem_map_of_mem hp)⟩
end
end
section
open PySem PySem.W PyProof.Rows PySem.Calls
section
variable {prog : Program} {w : World} {A : Around} {E : Value → Shared → Prop} {R : Result → Shared → Prop} {s : Shared} {env : Env}
theorem noted_N {m : Sem α} {Q : α → Shared → Prop} (h : wpN (model prog w) A m Q (notedBy (model prog w) A env E) s) : wpN (model prog w) A (m.onRaise fun x => do noteFrame x env; theTreesLotGoes x) Q E s := fun Γ p hΓ h1 h2 => by
  rw [Sem.wp_onRaise]
  refine Sem.wp_mono _ Γ m (fun _ _ _ h' => h') (fun e p' s' h' => ?_) p s (h Γ p hΓ h1 h2)
  exact (wpAny_bind (wpAny_mono h' (fun _ _ q => wpAny_theTreesLotGoes q) fun _ _ q => q) : wpAny (model prog w) A (do noteFrame e env; theTreesLotGoes e) (fun _ s'' => E e s'') E s') Γ p' hΓ
theorem codeN_whileLoop {test : Expr} {body orelse : List Stmt} (I : Nat → Shared → Prop)
    (turn : ∀ n s, I n s →
      wpAny (model prog w) A (isTrue test env (eval test env)) (fun b s₂ =>
        if b then wpN (model prog w) A (execs body env) (fun f s₃ => match f with
            | .next | .cont => ∃ m, m < n ∧ I m s₃
            | .brk => R (.ok .next) s₃
            | .ret v => R (.ok (.ret v)) s₃) (notedBy (model prog w) A env fun e s' => R (.error e) s') s₂
        else wpN (model prog w) A (execs orelse env) (fun f s₃ => R (.ok f) s₃) (notedBy (model prog w) A env fun e s' => R (.error e) s') s₂)
        (notedBy (model prog w) A env fun e s' => R (.error e) s') s)
    (n : Nat) (h : I n s) : codeN (model prog w) A (.whileLoop test body orelse env) R s := by
  refine codeN_loop rfl rfl I (fun n s hI => ?_) n h
  show wpN _ A ((whileTurn test body orelse env).onRaise (fun x => do noteFrame x env; theTreesLotGoes x)) _ _ s
  refine noted_N ?_
  simp only [whileTurn]
  refine wpN_bindA (wpAny_mono (turn n s hI) (fun b s₂ h₂ => ?_) fun _ _ h' => h')
  cases b with
  | false =>
    simp only [Bool.false_eq_true, if_false] at h₂ ⊢
    exact wpN_bind (wpN_mono h₂ (fun f s₃ h₃ => wpN_pure h₃) fun _ _ h' => h')
  | true =>
    simp only [if_true] at h₂ ⊢
    refine wpN_bind (wpN_mono h₂ (fun f s₃ h₃ => ?_) fun _ _ h' => h')
    cases f with
    | next => exact wpN_pure ⟨rfl, h₃⟩
    | cont => exact wpN_pure ⟨rfl, h₃⟩
    | brk => exact wpN_pure h₃
    | ret v => exact wpN_pure h₃
theorem N_runOwn {M : Model} {c : Code} {h : Option Value} {Q : Flow → Shared → Prop}
    (hc : codeN M (A.mark h) c (fun r s' => match r with | .ok f => Q f s' | .error e => cameBackBy M A env E e s') s) (hnb : h ≠ some byPass := by intro x; cases x) : wpN M A (runOwn c env h) Q E s := by
  unfold runOwn
  intro Γ p hΓ h1 h2
  rw [Sem.wp_onRaise]
  exact Sem.wp_mono _ Γ _ (fun _ _ _ h' => h') (fun e p' s' h' => h' Γ p' hΓ) p s (wpN_run hc hnb Γ p hΓ h1 h2)
theorem N_While0 {M : Model} {test : Expr} {body orelse : List Stmt} {pos : Pos} {Q : Flow → Shared → Prop}
    (h : codeN M A (.whileLoop test body orelse env) (fun r s' => match r with | .ok f => Q f s' | .error e => cameBackBy M A env E e s') s) : wpN M A (exec (.While test body orelse pos) env) Q E s := by
  rw [exec_While]; exact wpN_bindA (wpAny_standAt (N_runOwn h))
end
section
variable {prog : Program} {w : World} {A : Around} {E : Value → Shared → Prop} {Q : Flow → Shared → Prop} {s : Shared} {env : Env} {h₀ : Heap} {L : Addr}
theorem While_invN {test : Expr} {body : List Stmt} {pos : Pos} {m : PySem.Str → Option Value} {news : List (Addr × Obj)} (J : Nat → (PySem.Str → Option Value) → List (Addr × Obj) → Prop) {n₀ : Nat}
    (F : Fr h₀ L s.heap m) (N : News h₀ L s.heap news) (hJ : J n₀ m news)
    (turn : ∀ n m₁ news₁ h₁ tk₁, Fr h₀ L h₁ m₁ → News h₀ L h₁ news₁ → J n m₁ news₁ →
      wpAny (model prog w) A (isTrue test env (eval test env)) (fun b s₂ =>
        if b = true then wpN (model prog w) A (execs body env) (WhileStep2 h₀ L s J Q n) E s₂ else Q .next s₂) E { s with heap := h₁, toks := tk₁ })
    (hE : PassesOwn (model prog w) A env E := by passes_own) : wpN (model prog w) A (exec (.While test body [] pos) env) Q E s := by
  refine N_While0 (codeN_whileLoop (fun n s' => ∃ h₁ tk₁ m₁ news₁, s' = { s with heap := h₁, toks := tk₁ } ∧ Fr h₀ L h₁ m₁ ∧ News h₀ L h₁ news₁ ∧ J n m₁ news₁) ?_ n₀ ⟨s.heap, s.toks, m, news, rfl, F, N, hJ⟩)
  rintro n s' ⟨h₁, tk₁, m₁, news₁, rfl, F₁, N₁, J₁⟩
  refine wpAny_mono (turn n m₁ news₁ h₁ tk₁ F₁ N₁ J₁) (fun b s₂ h₂ => ?_) hE
  cases b with
  | false =>
    simp only [Bool.false_eq_true, if_false] at h₂ ⊢
    exact N_execs_nil h₂
  | true =>
    simp only [if_true] at h₂ ⊢
    refine wpN_mono h₂ (fun f s₃ h₃ => ?_) hE
    cases f with
    | next =>
      obtain ⟨h', tk, m₂, news₂, n', rfl, F₂, N₂, hn, J₂⟩ := h₃
      exact ⟨n', hn, h', tk, m₂, news₂, rfl, F₂, N₂, J₂⟩
    | cont =>
      obtain ⟨h', tk, m₂, news₂, n', rfl, F₂, N₂, hn, J₂⟩ := h₃
      exact ⟨n', hn, h', tk, m₂, news₂, rfl, F₂, N₂, J₂⟩
    | brk => exact h₃
    | ret v => exact h₃
theorem ksw_whileN {σ : Type} {test : Expr} {body : List Stmt} {pos : Pos} {m₀ : PySem.Str → Option Value} (Led : σ → List (Addr × Obj)) (ps : σ → List (PySem.Str × Value)) (Facts : σ → Prop) (stored : List PySem.Str) (P : σ → Prop) (μ : σ → Nat) (c₀ : σ)
    (F : Fr h₀ L s.heap m₀) (N : News h₀ L s.heap (Led c₀)) (hf : Facts c₀) (hk : ∀ p ∈ ps c₀, m₀ p.1 = some p.2) (hp : P c₀)
    (turn : ∀ (c : σ) (u : PySem.Str → Option Value) h tk, Facts c → P c → Fr h₀ L h (kstB (fun z => if stored.contains z then u z else m₀ z) (ps c)) → News h₀ L h (Led c) →
      wpAny (model prog w) A (isTrue test env (eval test env)) (fun b s₂ =>
        if b = true then wpN (model prog w) A (execs body env) (KswPost h₀ L s Led ps Facts stored m₀ P μ Q c) E s₂ else Q .next s₂) E { s with heap := h, toks := tk })
    (hE : PassesOwn (model prog w) A env E := by passes_own) :
    wpN (model prog w) A (exec (.While test body [] pos) env) Q E s := by
  refine While_invN (fun n m nx => ∃ c : σ, nx = Led c ∧ μ c = n ∧ Facts c ∧ (∀ p ∈ ps c, m p.1 = some p.2) ∧ (∀ z, (∀ p ∈ ps c, z ≠ p.1) → stored.contains z = false → m z = m₀ z) ∧ P c) F N ⟨c₀, rfl, rfl, hf, hk, fun _ _ _ => rfl, hp⟩ ?_ hE
  rintro n m₁ nx h tk F₁ N₁ ⟨c, hnx, hsz, hf', h1, h2, hp'⟩
  rw [hnx] at N₁
  rw [← hsz]
  refine wpAny_mono (turn c m₁ h tk hf' hp' (ksw_fr h1 h2 F₁) N₁) (fun b s₂ p => ?_) fun _ _ x => x
  cases b with
  | false => simpa using p
  | true =>
    simp only [if_true] at p ⊢
    refine wpN_mono p (fun f s₃ q => ?_) fun _ _ x => x
    cases f with
    | ret v => exact q
    | brk => exact q
    | next =>
      obtain ⟨c', h', tk', m', news', rfl, F', N', hn, hf9, hk9, hr9, hp9, hm9⟩ := q
      exact ⟨h', tk', m', Led c', μ c', rfl, F', fun p hp => N' p (hn p hp), hm9, c', rfl, rfl, hf9, hk9, hr9, hp9⟩
    | cont =>
      obtain ⟨c', h', tk', m', news', rfl, F', N', hn, hf9, hk9, hr9, hp9, hm9⟩ := q
      exact ⟨h', tk', m', Led c', μ c', rfl, F', fun p hp => N' p (hn p hp), hm9, c', rfl, rfl, hf9, hk9, hr9, hp9⟩
end
end
section
open PySem PySem.W PyProof.Rows PySem.Calls
def GivesWN (w : World) (f : Addr) (dk : Nat) (wa da : Addr) (D : Int → Tok → Obj) (sl : Array (Option Value)) (i : Int) (xs : List Value) (R : Value → Int → Prop) (XC : Addr → Prop) : Prop :=
  ∀ (mean : ExcName → Option Value) (mg mb : PySem.Str → Option Value) (dp un : Nat) (gd : Option (List Code)) (cn : PySem.Str) (cs : Scope) (a : Addr) (ccd : Value) (cl : List (PySem.Str × Addr)) (outer : List Env) (A₀ : Around) (base h₀ : Heap) (L : Addr) (m : PySem.Str → Option Value) (s : Shared) (Q E : Value → Shared → Prop) (news : List (Addr × Obj)) (upd : Obj → List (Addr × Obj)) (t2 : Tok),
    Below A₀ base outer h₀ → Fr h₀ L s.heap m → (hd.heap_1 w.params).In h₀ → News h₀ L s.heap news → Top viewQ (looseW viewQ [PySem.Str.ofString "PostError"]) mean mg mb h₀ → cs.kind = .function →
    (∀ o', Upd da (D i t2) o' news (upd o')) → (wa, wireO da sl) ∈ news →
    dp + dk < recursionLimit → un + 8 * dk < cLine →
    (∀ v j t2' h' tk', R v j → Fr h₀ L h' m → News h₀ L h' (upd (D j t2')) → Q v { s with heap := h', toks := tk' }) →
    (∀ C e t vs o' g₂ h' tk', XC C → Fr h₀ L g₂ m → RaisedS base g₂ (envX cn cs L a ccd cl :: outer) e (.ref C) t vs (upd o') h' → g₂.UpToSlots h' → E (.ref e) { s with heap := h', toks := tk' }) →
    wpN (model PySem.Challenge.rw_or0059_01.row.prog w) (ktrTop dp un gd cn cs L a ccd cl outer) (call (.ref f) (.ref wa :: xs)) Q E s
theorem givesWN_start {w : World} {f : Addr} {dk : Nat} {wa da : Addr} {D : Int → Tok → Obj} {sl : Array (Option Value)} {i : Int} {xs : List Value} {R : Value → Int → Prop} {XC : Addr → Prop}
    (hD : ∀ t, D i t ≠ wireO da sl)
    (h : ∀ (mean : ExcName → Option Value) (mg mb : PySem.Str → Option Value) (dp un : Nat) (gd : Option (List Code)) (cn : PySem.Str) (cs : Scope) (a : Addr) (ccd : Value) (cl : List (PySem.Str × Addr)) (outer : List Env) (A₀ : Around) (base h₀ : Heap) (L : Addr) (m : PySem.Str → Option Value) (s : Shared) (Q E : Value → Shared → Prop) (rest : List (Addr × Obj)) (t2 : Tok),
      Below A₀ base outer h₀ → Fr h₀ L s.heap m → (hd.heap_1 w.params).In h₀ → News h₀ L s.heap ((da, D i t2) :: (wa, wireO da sl) :: rest) → Top viewQ (looseW viewQ [PySem.Str.ofString "PostError"]) mean mg mb h₀ → cs.kind = .function →
      (∀ p ∈ rest, p.1 ≠ da) → @Ne Nat wa da →
      dp + dk < recursionLimit → un + 8 * dk < cLine →
      (∀ v j t2' h' tk', R v j → Fr h₀ L h' m → News h₀ L h' ((da, D j t2') :: (wa, wireO da sl) :: rest) → Q v { s with heap := h', toks := tk' }) →
      (∀ C e t vs o' g₂ h' tk', XC C → Fr h₀ L g₂ m → RaisedS base g₂ (envX cn cs L a ccd cl :: outer) e (.ref C) t vs ((da, o') :: (wa, wireO da sl) :: rest) h' → g₂.UpToSlots h' → E (.ref e) { s with heap := h', toks := tk' }) →
      wpN (model PySem.Challenge.rw_or0059_01.row.prog w) (ktrTop dp un gd cn cs L a ccd cl outer) (call (.ref f) (.ref wa :: xs)) Q E s) :
    GivesWN w f dk wa da D sl i xs R XC := by
  intro mean mg mb dp un gd cn cs a ccd cl outer A₀ base h₀ L m s Q E news upd t2 B F X N T hk U hm hdp hun ret exc
  obtain ⟨pre, post, e1, e2, n1, n2⟩ := (U (D i t2)).split
  have hne : wa ≠ da := by
    intro q
    have x1 := (N _ hm).1
    have x2 := (N (da, D i t2) (by rw [e1]; simp)).1
    rw [q] at x1
    rw [x1] at x2
    exact hD t2 (Option.some.inj x2).symm
  have key : ∀ o', ∀ p ∈ upd o', p ∈ (da, o') :: (wa, wireO da sl) :: (pre ++ post) := by
    intro o' p hp
    obtain ⟨pre', post', f1, f2, m1, m2⟩ := (U o').split
    have : ∀ (l₁ l₂ r₁ r₂ : List (Addr × Obj)) (o : Obj), l₁ ++ (da, o) :: r₁ = l₂ ++ (da, o) :: r₂ → (∀ p ∈ l₁, p.1 ≠ da) → (∀ p ∈ l₂, p.1 ≠ da) → l₁ = l₂ ∧ r₁ = r₂ := by
      intro l₁
      induction l₁ with
      | nil =>
        intro l₂ r₁ r₂ o e _ h2
        cases l₂ with
        | nil => exact ⟨rfl, by simpa using e⟩
        | cons x l₂ =>
          simp only [List.nil_append, List.cons_append, List.cons.injEq] at e
          exact absurd (by rw [← e.1]) (h2 x (List.mem_cons_self ..))
      | cons x l₁ ih =>
        intro l₂ r₁ r₂ o e h1 h2
        cases l₂ with
        | nil =>
          simp only [List.nil_append, List.cons_append, List.cons.injEq] at e
          exact absurd (by rw [e.1]) (h1 x (List.mem_cons_self ..))
        | cons y l₂ =>
          simp only [List.cons_append, List.cons.injEq] at e
          obtain ⟨a1, a2⟩ := ih l₂ r₁ r₂ o e.2 (fun p hp => h1 p (List.mem_cons_of_mem _ hp)) fun p hp => h2 p (List.mem_cons_of_mem _ hp)
          exact ⟨by rw [e.1, a1], a2⟩
    obtain ⟨rfl, rfl⟩ := this _ _ _ _ _ (e1.symm.trans f1) n1 m1
    rw [f2] at hp
    simp only [List.mem_append, List.mem_cons] at hp ⊢
    rcases hp with hp | hp | hp
    · exact .inr (.inr (.inl hp))
    · exact .inl hp
    · exact .inr (.inr (.inr hp))
  refine h mean mg mb dp un gd cn cs a ccd cl outer A₀ base h₀ L m s Q E (pre ++ post) t2 B F X ?_ T hk ?_ hne hdp hun ?_ ?_
  · intro p hp
    rcases List.mem_cons.mp hp with rfl | hp
    · exact N _ (by rw [e1]; simp)
    · rcases List.mem_cons.mp hp with rfl | hp
      · exact N _ hm
      · exact N _ (by rw [e1]; simp only [List.mem_append, List.mem_cons] at hp ⊢; rcases hp with hp | hp; exact .inl hp; exact .inr (.inr hp))
  · intro p hp
    rcases List.mem_append.mp hp with hp | hp
    · exact n1 p hp
    · exact n2 p hp
  · intro v j t2' h' tk' hR F' N'
    exact ret v j t2' h' tk' hR F' fun p hp => N' p (key _ p hp)
  · intro C e t vs o' g₂ h' tk' hC F' R' U'
    exact exc C e t vs o' g₂ h' tk' hC F' (RaisedS.sub R' fun p hp => key _ p hp) U'
theorem GivesWN.use {w : World} {f : Addr} {dk : Nat} {wa da : Addr} {D : Int → Tok → Obj} {sl : Array (Option Value)} {i : Int} {xs : List Value} {R : Value → Int → Prop} {XC : Addr → Prop} (G : GivesWN w f dk wa da D sl i xs R XC)
    {mean : ExcName → Option Value} {mg mb : PySem.Str → Option Value} {dp un : Nat} {gd : Option (List Code)} {cn : PySem.Str} {cs : Scope} {a : Addr} {ccd : Value} {cl : List (PySem.Str × Addr)} {outer : List Env} {A₀ : Around} {base h₀ : Heap} {L : Addr} {m : PySem.Str → Option Value} {s : Shared} {Q E : Value → Shared → Prop} {news : List (Addr × Obj)} {upd : Obj → List (Addr × Obj)} {t2 : Tok}
    (B : Below A₀ base outer h₀) (F : Fr h₀ L s.heap m) (X : (hd.heap_1 w.params).In h₀) (N : News h₀ L s.heap news) (T : Top viewQ (looseW viewQ [PySem.Str.ofString "PostError"]) mean mg mb h₀) (hk : cs.kind = .function)
    (hm : (wa, wireO da sl) ∈ news) (U : ∀ o', Upd da (D i t2) o' news (upd o'))
    (hdp : dp + dk < recursionLimit) (hun : un + 8 * dk < cLine)
    (ret : ∀ v j t2' h' tk', R v j → Fr h₀ L h' m → News h₀ L h' (upd (D j t2')) → Q v { s with heap := h', toks := tk' })
    (exc : ∀ C e t vs o' g₂ h' tk', XC C → Fr h₀ L g₂ m → RaisedS base g₂ (envX cn cs L a ccd cl :: outer) e (.ref C) t vs (upd o') h' → g₂.UpToSlots h' → E (.ref e) { s with heap := h', toks := tk' }) :
    wpN (model PySem.Challenge.rw_or0059_01.row.prog w) (ktrTop dp un gd cn cs L a ccd cl outer) (call (.ref f) (.ref wa :: xs)) Q E s :=
  G mean mg mb dp un gd cn cs a ccd cl outer A₀ base h₀ L m s Q E news upd t2 B F X N T hk U hm hdp hun ret exc
theorem GivesWN.use2 {w : World} {f : Addr} {dk : Nat} {wa da : Addr} {D : Int → Tok → Obj} {sl : Array (Option Value)} {i : Int} {xs : List Value} {R : Value → Int → Prop} {XC : Addr → Prop}
    {mean : ExcName → Option Value} {mg mb : PySem.Str → Option Value} {dp un : Nat} {gd : Option (List Code)} {cn : PySem.Str} {cs : Scope} {a : Addr} {ccd : Value} {cl : List (PySem.Str × Addr)} {outer : List Env} {A₀ : Around} {base h₀ : Heap} {L : Addr} {m : PySem.Str → Option Value} {s : Shared} {Q E : Value → Shared → Prop} {news : List (Addr × Obj)} {upd : Obj → List (Addr × Obj)} {t2 : Tok}
    (B : Below A₀ base outer h₀) (F : Fr h₀ L s.heap m) (X : (hd.heap_1 w.params).In h₀) (N : News h₀ L s.heap news) (T : Top viewQ (looseW viewQ [PySem.Str.ofString "PostError"]) mean mg mb h₀) (hk : cs.kind = .function)
    (hm : (wa, wireO da sl) ∈ news) (U : ∀ o', Upd da (D i t2) o' news (upd o'))
    (hdp : dp + dk < recursionLimit) (hun : un + 8 * dk < cLine) (G : GivesWN w f dk wa da D sl i xs R XC)
    (ret : ∀ v j t2' h' tk', R v j → Fr h₀ L h' m → News h₀ L h' (upd (D j t2')) → Q v { s with heap := h', toks := tk' })
    (exc : ∀ C e t vs o' g₂ h' tk', XC C → Fr h₀ L g₂ m → RaisedS base g₂ (envX cn cs L a ccd cl :: outer) e (.ref C) t vs (upd o') h' → g₂.UpToSlots h' → E (.ref e) { s with heap := h', toks := tk' }) :
    wpN (model PySem.Challenge.rw_or0059_01.row.prog w) (ktrTop dp un gd cn cs L a ccd cl outer) (call (.ref f) (.ref wa :: xs)) Q E s :=
  G mean mg mb dp un gd cn cs a ccd cl outer A₀ base h₀ L m s Q E news upd t2 B F X N T hk U hm hdp hun ret exc
theorem GivesW.toN {w : World} {f : Addr} {dk : Nat} {wa da : Addr} {D : Int → Tok → Obj} {sl : Array (Option Value)} {i : Int} {xs : List Value} {R : Value → Int → Prop} {XC : Addr → Prop} (G : GivesW w f dk wa da D sl i xs R XC) : GivesWN w f dk wa da D sl i xs R XC := by
  intro mean mg mb dp un gd cn cs a ccd cl outer A₀ base h₀ L m s Q E news upd t2 B F X N T hk hu hm hdp hun ret exc
  exact wpN_of (G mean mg mb dp un gd cn cs a ccd cl outer A₀ base h₀ L m s Q E news upd t2 B F X N T hk hu hm hdp hun ret exc)
section
variable {prog : Program} {w : World} {A : Around} {E : Value → Shared → Prop} {s : Shared} {h₀ : Heap} {L : Addr} {m : PySem.Str → Option Value}
theorem arr_new_K {rest : List (Addr × Obj)} {Q : Value → Shared → Prop} (F : Fr h₀ L s.heap m) (N : News h₀ L s.heap rest)
    (h : ∀ x h', Fr h₀ L h' m → News h₀ L h' ((x, BA.arr #[]) :: rest) → (∀ p ∈ rest, p.1 < x) → Q (.ref x) { s with heap := h' }) : wpN (model prog w) A (call (.type "bytearray") []) Q E s := by
  refine BA.call_arr_N ?_
  have lt : ∀ p ∈ rest, p.1 < s.heap.objs.size := fun p hp => Heap.lt_size (N p hp).1
  have N1 := News.push F N (BA.arr #[])
  obtain ⟨F2, N2⟩ := news_upd (pre := []) (f := Obj.mapBytearray fun _ => #[]) (F.push _) N1 (fun p hp => nomatch hp) (fun p hp => Nat.ne_of_lt (lt p hp)) (o' := BA.arr #[]) rfl rfl
  exact h s.heap.objs.size _ F2 N2 lt
theorem append_K {a : Addr} {b : Array UInt8} {c : Int} {t : Tok} {news : List (Addr × Obj)} {upd : Obj → List (Addr × Obj)} {Q : Value → Shared → Prop} (F : Fr h₀ L s.heap m) (N : News h₀ L s.heap news) (U : ∀ o', Upd a (BA.arr b) o' news (upd o'))
    (h0 : 0 ≤ c) (h1 : c < 256) (hz : b.size < sizeLine) (h : ∀ h', Fr h₀ L h' m → News h₀ L h' (upd (BA.arr (b.push c.toNat.toUInt8))) → Q .none { s with heap := h' }) : wpN (model prog w) A (call (.builtin "bytearray.append") [.ref a, .int c t]) Q E s := by
  obtain ⟨pre, post, e1, e2, n1, n2⟩ := (U (BA.arr (b.push c.toNat.toUInt8))).split
  rw [e1] at N
  refine BA.append_N ((N (a, BA.arr b) (by simp)).1) h0 h1 hz ?_
  obtain ⟨F2, N2⟩ := news_upd (f := Obj.mapBytearray (·.push c.toNat.toUInt8)) F N n1 n2 (o' := BA.arr (b.push c.toNat.toUInt8)) rfl rfl
  exact h _ F2 (e2 ▸ N2)
end
end
section
open PySem PySem.W PyProof.Rows PySem.Calls
theorem wpN_callN {A : Around} {E : Value → Shared → Prop} {s : Shared} {prog : Program} {w : World} {f : Value} {pos : List Value} {Q : Value → Shared → Prop}
    (hc : codeN (model prog w) A (.call f ⟨pos, []⟩) (fun r s' => match r with | .ok (.ret v) => Q v s' | .ok _ => False | .error e => E e s') s) : wpN (model prog w) A (call f pos) Q E s := wpN_call hc
theorem fold_N {α : Type} {M : Model} {A : Around} {t : Sem α} {Q : α → Shared → Prop} {E : Value → Shared → Prop} {s : Shared} (h : let qk := Q; let ek := E; wpN M A t qk ek s) : wpN M A t Q E s := h
theorem news_get {h₀ h : Heap} {L a : Addr} {o : Obj} {news : List (Addr × Obj)} (N : News h₀ L h news) (hm : (a, o) ∈ news) : h.get? a = some o := (N _ hm).1
def qgo : List Int → Option (List Int × Int)
  | [] => none
  | c :: l =>
    if c = 34 then some ([], 1)
    else if c = 92 then (match l with
      | [] => none
      | d :: l' => if d = 34 ∨ d = 92 then (qgo l').map fun p => (d :: p.1, 2 + p.2) else none)
    else if c < 1 ∨ 127 < c ∨ c = 13 ∨ c = 10 then none
    else (qgo l).map fun p => (c :: p.1, 1 + p.2)
theorem qgo_cons (c : Int) (l : List Int) : qgo (c :: l) = if c = 34 then some ([], 1)
    else if c = 92 then (match l with
      | [] => none
      | d :: l' => if d = 34 ∨ d = 92 then (qgo l').map fun p => (d :: p.1, 2 + p.2) else none)
    else if c < 1 ∨ 127 < c ∨ c = 13 ∨ c = 10 then none
    else (qgo l).map fun p => (c :: p.1, 1 + p.2) := by
  cases l with
  | nil => simp only [qgo]
  | cons d l' => rw [qgo]
def qpos (ks : List Int) (j : Int) (acc : List Int) : Option (List Int × Int) := (qgo (ks.drop j.toNat)).map fun p => (acc ++ p.1, j + p.2)
def quoP (ks : List Int) (i : Int) : Option (List Int × Int) := if skipB ks i [34] = true then qpos ks (i + 1) [] else none
end
section
open PySem PySem.W PyProof.Rows PySem.Calls
theorem peekZ_facts {data : Array UInt8} {ks : List Int} (hks : KBw.bInts data = ks) {i : Int} (h0 : 0 ≤ i) : (i < ks.length ∨ peekZ ks i = -1) ∧ -1 ≤ peekZ ks i ∧ peekZ ks i < 256 := by
  unfold peekZ
  by_cases h : i < ks.length
  · rw [if_pos h]
    have hl : i.toNat < ks.length := by omega
    have e : ks.getD i.toNat 0 = ks[i.toNat] := by simp [List.getD, hl]
    rw [e]
    have hm : ks[i.toNat] ∈ KBw.bInts data := by rw [hks]; exact List.getElem_mem hl
    obtain ⟨c, _, hc⟩ := List.mem_map.mp hm
    have := c.toNat_lt
    omega
  · rw [if_neg h]
    omega
theorem peek_x (w : World) {wa da : Addr} {sl : Array (Option Value)} {k1 k2 t1 : Nat} {data : Array UInt8} {ks : List Int} {i : Int} (hks : KBw.bInts data = ks) (hlen : ks.length ≤ 1000) (h0 : 0 ≤ i) (h1 : i ≤ ks.length) :
    GivesW w 225 1 wa da (wireD w k1 k2 data t1) sl i [] (fun v j => (∃ t, v = .int (peekZ ks i) t) ∧ j = i ∧ ((i < ks.length ∨ peekZ ks i = -1) ∧ -1 ≤ peekZ ks i ∧ peekZ ks i < 256)) (fun _ => False) :=
  (peek_c w hks hlen h0 h1).mono (fun v j ⟨a, b⟩ => ⟨a, b, peekZ_facts hks h0⟩) (fun C h => h)
theorem q_cons {ks : List Int} {j : Int} (h0 : 0 ≤ j) (h : j < ks.length) : ks.drop j.toNat = peekZ ks j :: ks.drop (j + 1).toNat := by
  rw [drop_cons h0 h]
  unfold peekZ
  rw [if_pos h]
theorem q_nil {ks : List Int} {j : Int} (h : ¬ j < ks.length) : ks.drop j.toNat = [] := List.drop_eq_nil_of_le (by omega)
theorem q_lt {ks : List Int} {j : Int} (h : peekZ ks j ≠ -1) : j < ks.length := by
  by_cases q : j < ks.length
  · exact q
  · exact absurd (by unfold peekZ; rw [if_neg q]) h
theorem qpos_end {ks : List Int} {j : Int} {acc : List Int} (h0 : 0 ≤ j) (h : peekZ ks j = 34) : qpos ks j acc = some (acc, j + 1) := by
  unfold qpos
  rw [q_cons h0 (q_lt (by omega)), h, qgo_cons, if_pos rfl]
  simp
theorem qpos_step {ks : List Int} {j : Int} {acc : List Int} (h0 : 0 ≤ j) (h1 : peekZ ks j ≠ 34) (h2 : peekZ ks j ≠ 92) (h3 : ¬ peekZ ks j < 1) (h4 : ¬ 127 < peekZ ks j) (h5 : ([13, 10] : List Int).contains (peekZ ks j) = false) : qpos ks j acc = qpos ks (j + 1) (acc ++ [peekZ ks j]) := by
  unfold qpos
  have n13 : peekZ ks j ≠ 13 := fun q => by rw [q] at h5; exact absurd h5 (by decide)
  have n10 : peekZ ks j ≠ 10 := fun q => by rw [q] at h5; exact absurd h5 (by decide)
  rw [q_cons h0 (q_lt (by omega)), qgo_cons, if_neg h1, if_neg h2, if_neg (by omega)]
  cases qgo (ks.drop (j + 1).toNat) with
  | none => rfl
  | some p => simp; omega
theorem qpos_bad {ks : List Int} {j : Int} {acc : List Int} (h0 : 0 ≤ j) (h1 : peekZ ks j ≠ 34) (h2 : peekZ ks j ≠ 92) (h : peekZ ks j < 1 ∨ 127 < peekZ ks j ∨ ([13, 10] : List Int).contains (peekZ ks j) = true) : qpos ks j acc = none := by
  unfold qpos
  by_cases q : j < ks.length
  · have hh : peekZ ks j < 1 ∨ 127 < peekZ ks j ∨ peekZ ks j = 13 ∨ peekZ ks j = 10 := by
      rcases h with h | h | h
      · exact .inl h
      · exact .inr (.inl h)
      · simp at h
        exact .inr (.inr h)
    rw [q_cons h0 q, qgo_cons, if_neg h1, if_neg h2, if_pos hh]
    rfl
  · rw [q_nil q]
    rfl
theorem qpos_esc {ks : List Int} {j : Int} {acc : List Int} (h0 : 0 ≤ j) (h1 : peekZ ks j = 92) (h2 : peekZ ks (j + 1) = 34 ∨ peekZ ks (j + 1) = 92) : qpos ks j acc = qpos ks (j + 1 + 1) (acc ++ [peekZ ks (j + 1)]) := by
  unfold qpos
  rw [q_cons h0 (q_lt (by omega)), q_cons (by omega) (q_lt (j := j + 1) (by omega)), h1, qgo_cons, if_neg (by omega), if_pos rfl]
  dsimp only
  rw [if_pos h2]
  cases qgo (ks.drop (j + 1 + 1).toNat) with
  | none => rfl
  | some p => simp; omega
theorem qpos_escbad {ks : List Int} {j : Int} {acc : List Int} (h0 : 0 ≤ j) (h1 : peekZ ks j = 92) (h2 : peekZ ks (j + 1) ≠ 34) (h3 : peekZ ks (j + 1) ≠ 92) : qpos ks j acc = none := by
  unfold qpos
  rw [q_cons h0 (q_lt (by omega)), h1, qgo_cons, if_neg (by omega), if_pos rfl]
  by_cases q : j + 1 < ks.length
  · rw [q_cons (by omega) q]
    dsimp only
    rw [if_neg (by omega)]
    rfl
  · rw [q_nil q]
    rfl
theorem bInts_push (b : Array UInt8) (c : Int) (h0 : 0 ≤ c) (h1 : c < 256) : KBw.bInts (b.push c.toNat.toUInt8) = KBw.bInts b ++ [c] := by
  unfold KBw.bInts
  rw [Array.toList_push, List.map_append]
  congr 1
  have : c.toNat.toUInt8.toNat = c.toNat := by
    show (UInt8.ofNat c.toNat).toNat = c.toNat
    rw [UInt8.toNat_ofNat']
    omega
  simp only [List.map_cons, List.map_nil, this]
  congr 1
  omega
theorem ret_WN {h₀ h' : Heap} {L da wa : Addr} {D : Int → Tok → Obj} {sl : Array (Option Value)} {m : PySem.Str → Option Value} {rest : List (Addr × Obj)} {s : Shared} {Q : Value → Shared → Prop} {R : Value → Int → Prop} {tk' : Nat} {v : Value} {j : Int} {t2 : Tok} {x : Addr × Obj}
    (ret : ∀ v j t2' h' tk', R v j → Fr h₀ L h' m → News h₀ L h' ((da, D j t2') :: (wa, wireO da sl) :: rest) → Q v { s with heap := h', toks := tk' }) (F : Fr h₀ L h' m) (N : News h₀ L h' (x :: (da, D j t2) :: (wa, wireO da sl) :: rest)) (r : R v j) : Q v { s with heap := h', toks := tk' } := ret v j t2 h' tk' r F fun p hp => N p (List.mem_cons_of_mem _ hp)
theorem exc_WN {base h₀ h' g₂ : Heap} {L da wa e t : Addr} {sl : Array (Option Value)} {m : PySem.Str → Option Value} {rest : List (Addr × Obj)} {s : Shared} {E : Value → Shared → Prop} {XC : Addr → Prop} {l : List Env} {tk' : Nat} {C : Addr} {vs : List Value} {o' : Obj} {x : Addr × Obj}
    (exc : ∀ C e t vs o' g₂ h' tk', XC C → Fr h₀ L g₂ m → RaisedS base g₂ l e (.ref C) t vs ((da, o') :: (wa, wireO da sl) :: rest) h' → g₂.UpToSlots h' → E (.ref e) { s with heap := h', toks := tk' })
    (F : Fr h₀ L g₂ m) (S : RaisedS base g₂ l e (.ref C) t vs (x :: (da, o') :: (wa, wireO da sl) :: rest) h') (U : g₂.UpToSlots h') (y : XC C) : E (.ref e) { s with heap := h', toks := tk' } := exc C e t vs o' g₂ h' tk' y F (RaisedS.sub S fun p hp => List.mem_cons_of_mem _ hp) U
theorem quo_no1 {ks : List Int} {i : Int} (h : skipB ks i [34] = false) : quoP ks i = none := by
  unfold quoP
  rw [if_neg (by rw [h]; exact Bool.false_ne_true)]
theorem quo_no {ks : List Int} {i j : Int} {acc : List Int} (h : skipB ks i [34] = true) (e : qpos ks j acc = qpos ks (i + 1) []) (n : qpos ks j acc = none) : quoP ks i = none := by
  unfold quoP
  rw [if_pos h, ← e, n]
theorem quo_yes {ks : List Int} {i j : Int} {acc : List Int} (h : skipB ks i [34] = true) (h0 : 0 ≤ j) (e : qpos ks j acc = qpos ks (i + 1) []) (q : peekZ ks j = 34) : quoP ks i = some (acc, j + 1) := by
  unfold quoP
  rw [if_pos h, ← e, qpos_end h0 q]
theorem quo_turn {ks : List Int} {i j : Int} {b : Array UInt8} {c : Int} (e : qpos ks j (KBw.bInts b) = qpos ks (i + 1) []) (h0 : 0 ≤ c) (h1 : c < 256) {j' : Int} (q : qpos ks j (KBw.bInts b) = qpos ks j' (KBw.bInts b ++ [c])) : qpos ks j' (KBw.bInts (b.push c.toNat.toUInt8)) = qpos ks (i + 1) [] := by
  rw [bInts_push b c h0 h1, ← q, e]
theorem no_crlf {x : Int} (h : (KBw.bInts #[13, 10]).contains x = true) (h2 : x = 34 ∨ x = 92) : False := by
  rcases h2 with rfl | rfl <;> exact absurd h (by decide)
end
section
open PySem PySem.W PyProof.Rows PySem.Calls
theorem quoted_c (w : World) {wa da : Addr} {sl : Array (Option Value)} {k1 k2 t1 : Nat} {data : Array UInt8} {ks : List Int} {i : Int} (hks : KBw.bInts data = ks) (hlen : ks.length ≤ 1000) (h0 : 0 ≤ i) (h1 : i ≤ ks.length) :
    GivesWN w 316 11 wa da (wireD w k1 k2 data t1) sl i [] (fun v j => ∃ os, quoP ks i = some (os, j) ∧ ∃ b t, v = .bytes b t ∧ KBw.bInts b = os) (fun C => C = 71 ∧ quoP ks i = none) := by
  k_with_none
  k_with "compareOp NotIn int bytes" => (k_here; (with_reducible show wpAny _ _ (compareOp CmpOp.NotIn (Value.int _ _) (Value.bytes _ _)) _ _ _); refine notin_bytes ?_ ?_ rfl ?_; (first | assumption | omega); (first | assumption | omega))
  k_with "compareOp In int bytes" => (k_here; (with_reducible show wpAny _ _ (compareOp CmpOp.In (Value.int _ _) (Value.bytes _ _)) _ _ _); refine in_bytes ?_ ?_ rfl ?_; (first | assumption | omega); (first | assumption | omega))
  k_with "call ref" => (k_here; (with_reducible show wpAny _ _ (call (Value.ref 71) _) _ _ _); k_dflt (refine' excCall_c _ (fault71 _) (by k_asm) (by k_asm) (by k_asm) (by k_asm) (by k_asm) (by first | exact rfl | assumption) (by ktr_room) (by ktr_units) ?_; k_whole; intro e9 t9 d9 h9 tk9 F9 N9 n1 n2 n3; (try k_sweep); (try dsimp only); (try k_fold)))
  k_with "call ref" => (k_here; (with_reducible show wpAny _ _ (call (Value.ref 83) _) _ _ _); k_dflt (refine' excCall_c _ (fault83 _) (by k_asm) (by k_asm) (by k_asm) (by k_asm) (by k_asm) (by first | exact rfl | assumption) (by ktr_room) (by ktr_units) ?_; k_whole; intro e9 t9 d9 h9 tk9 F9 N9 n1 n2 n3; (try k_sweep); (try dsimp only); (try k_fold)))
  k_with "exec Raise some none" => (k_here; refine raise_any rfl ?_)
  k_with "RaiseEnd" => (k_here; refine' raiseEnd_K (by k_asm) (by k_asm) (by k_asm) (by first | exact fault71 _ | exact fault83 _) ?_)
  k_with "leaving ref" => (k_here; k_dflt (first | (refine' leave_raiseL (by k_asm) (by k_asm) (by k_asm) (by assumption) (by assumption) (by assumption) ?_; intro h9 S9 U9) | (refine' leave_onS (by assumption) (by assumption) (by assumption) (by assumption) ?_; intro h9 S9 S9' U9)))
  k_with "callWith ref" => (k_here; (with_reducible show wpAny _ _ (callWith _ (Value.ref _) _ (backTo _ (starEach [] _)) []) _ _ _); k_dflt (refine' callWith_K0 (Frag.In.keeps (by k_asm) (Fr.keep (by k_asm))) (by k_is) ?_; k_whole))
  k_with "call ref" => (k_here; (with_reducible show wpAny _ _ (call (Value.ref 239) _) _ _ _); k_dflt (refine' GivesW.use2 (D := wireD w _ _ _ _) (by k_asm) (by k_asm) (by k_asm) (by k_asm) (by k_asm) (by first | exact rfl | assumption) (by k_mem) (by (intro o9; k_upd)) (by ktr_room) (by ktr_units) (need_lit [34] 1 _ (by assumption) (by first | assumption | omega) (by first | assumption | omega) (by first | assumption | omega) (by exact rfl) (by exact rfl) (by decide)) ?_ ?_; intro v9 j9 t9 h9 tk9 r9 F9 N9; obtain ⟨e9, b9, e9', q9⟩ := r9; subst e9; subst e9'; (try dsimp only at N9); (try k_sweep); (try dsimp only); (try k_fold); rotate_left; intro C9 e9 t9 vs9 o9 g9 h9 tk9 x9 G9 S9 U9; obtain ⟨e9', b9⟩ := x9; subst e9'; (try dsimp only at S9); (try dsimp only); rotate_right))
  k_with "call ref" => (k_here; (with_reducible show wpAny _ _ (call (Value.ref 225) _) _ _ _); k_dflt (refine' GivesW.use2 (D := wireD w _ _ _ _) (by k_asm) (by k_asm) (by k_asm) (by k_asm) (by k_asm) (by first | exact rfl | assumption) (by k_mem) (by (intro o9; k_upd)) (by ktr_room) (by ktr_units) (peek_x _ (by assumption) (by first | assumption | omega) (by first | assumption | omega) (by first | assumption | omega)) ?_ (by (intro _ _ _ _ _ _ _ _ x9; exact False.elim x9)); k_whole; intro v9 j9 t9 h9 tk9 r9 F9 N9; obtain ⟨⟨u9, e9⟩, e9', q9, q9', q9''⟩ := r9; subst e9; subst e9'; (try dsimp only at N9); (try k_sweep); (try dsimp only); (try k_fold)))
  k_with "wpN" => (k_here; (with_reducible show wpN _ _ (_) _ _ _); k_dflt (refine wpN_of ?_; (try k_fold)))
  k_with "wpN" => (k_here; (with_reducible show wpN _ _ (execs (_ :: _) _) _ _ _); k_dflt (refine N_execs_cons ?_))
  k_with "wpN" => (k_here; (with_reducible show wpN _ _ (execs [] _) _ _ _); k_dflt (refine N_execs_nil ?_; (try dsimp only)))
  k_with "wpN" => (k_here; (with_reducible show wpN _ _ (exec (Stmt.Assign [Expr.Name _ _] (Expr.Call (Expr.Name (PySem.Str.ofString "bytearray") _) _ _ _) _) _) _ _ _); k_dflt (refine N_Assign_Name (N_Call ?_); (try k_fold)))
  k_with "wpN" => (k_here; (with_reducible show wpN _ _ (callWith _ (Value.type "bytearray") _ _ _) _ _ _); k_dflt (refine callWith_typeN0 ?_))
  k_with "wpN" => (k_here; (with_reducible show wpN _ _ (call (Value.type "bytearray") _) _ _ _); k_dflt (k_dflt (refine' arr_new_K (by k_asm) (by k_asm) ?_; k_whole; intro x9 h9 F9 N9 l9; (try k_sweep); have n9 : @Ne Nat x9 da := Nat.ne_of_gt (l9 _ (List.mem_cons_self ..)); have n8 : @Ne Nat x9 wa := Nat.ne_of_gt (l9 _ (List.mem_cons_of_mem _ (List.mem_cons_self ..))); have n7 : ∀ p ∈ rest, p.1 ≠ x9 := (fun p hp => Nat.ne_of_lt (l9 p (List.mem_cons_of_mem _ (List.mem_cons_of_mem _ hp)))); clear l9; (try dsimp only))))
  k_with "wpN" => (k_here; (with_reducible show wpN _ _ (exec (Stmt.Expr (Expr.Call (Expr.Attribute _ (PySem.Str.ofString "append") _) _ _ _) _) _) _ _ _); k_dflt (refine' N_Expr (N_MethodCall ?_); (try k_fold)))
  k_with "wpN" => (k_here; (with_reducible show wpN _ _ (callWith _ (Value.builtin "bytearray.append") _ _ _) _ _ _); k_dflt (refine callWith_builtinN ?_; (try k_fold)))
  k_with "wpN" => (k_here; (with_reducible show wpN _ _ (call (Value.builtin "bytearray.append") _) _ _ _); k_dflt (k_dflt (refine' append_K (by k_asm) (by k_asm) (by (intro o9; k_upd)) (by first | assumption | omega) (by first | assumption | omega) (by (rw [sizeLine_eq]; omega)) ?_; k_whole; intro h9 F9 N9; (try k_sweep); (try dsimp only))))
  k_with "wpN" => (k_here; (with_reducible show wpN _ _ (exec (Stmt.While _ _ _ _) _) _ _ _); k_dflt ((rename Fr _ _ _ _ => lF9); (rename News _ _ _ _ => lN9); refine ksw_whileN (σ := Int × Tok × Array UInt8) (fun c => (x9, BA.arr c.2.2) :: (da, wireD w k1 k2 data t1 c.1 c.2.1) :: (wa, wireO da sl) :: rest) (fun _ => []) (fun _ => True) [] (fun c => 0 ≤ c.1 ∧ c.1 ≤ ks.length ∧ c.2.2.size ≤ c.1 ∧ qpos ks c.1 (KBw.bInts c.2.2) = qpos ks (i + 1) []) (fun c => (ks.length - c.1).toNat) (i + 1, _, #[]) lF9 lN9 trivial (fun _ hp => absurd hp List.not_mem_nil) ⟨by omega, by omega, by (show (0 : Int) ≤ _; omega), rfl⟩ ?_; clear lF9 lN9; rintro ⟨j9, t9, b9⟩ u9 h9 tk9 - ⟨hj0, hj1, hj2, hj3⟩ F9 N9; replace F9 := ksw_plain F9; dsimp only at hj0 hj1 hj2 hj3 N9; (try k_fold)))
  k_with "KswEnd" => (k_here; refine ksw_end (_, _, _) (by assumption) (by assumption) (fun p hp => hp) trivial (fun p hp => absurd hp List.not_mem_nil) (fun z _ _ => rfl) ?_ ?_)
  k_with "getMethod ref" => (k_here; (with_reducible show wpAny _ _ (getMethod (Value.ref _) (PySem.Str.ofString "append") _) _ _ _); k_dflt (refine' BA.getMethod_append (news_get (by k_asm) (by k_mem)) ?_; k_whole); (try dsimp only))
  k_with "call type:bytes" => (k_here; (with_reducible show wpAny _ _ (call (Value.type "bytes") [Value.ref _]) _ _ _); k_dflt (refine' BA.call_bytes_arr (news_get (by k_asm) (by k_mem)) (by (rw [sizeLine_eq]; omega)) ?_; k_whole; intro t9 k9; (try dsimp only)))
  refine givesWN_start (fun _ => dict_ne) ?_
  intro mean mg mb dp un gd cn cs a ccd cl outer A₀ base h₀ L m s Q E rest t2 B F X N T hk hr hne hdp hun ret exc
  refine wpN_callN ?_
  k_dflt (refine' code_defN ?k1 ?k2 ?k3 ?k4 ?k5 ?kA ?kF ?kK ?k6 ?k7 ?k8 ?k9 ?kB ?_ ?c2 ?c3 ?c4 ?c5; (case kA => exact rfl); (case kF => exact rfl); (case kK => assumption); (case k1 => k_asm); (case k2 => k_asm); (case k3 => k_asm); (case k4 => k_asm); (case k5 => k_asm); (case k6 => k_is); (case k7 => k_is); (case k8 => ktr_room); (case k9 => first | exact BindsTo.of_eq rfl | exact binds_K (by k_in) rfl (by k_is) rfl rfl rfl); (case c5 => decide); (case kB => exact locs rfl); (case c2 => exact rfl); (case c3 => exact rfl); (case c4 => exact rfl); k_whole; intro g' L' h' FG' F' N' B' X' T'; (try dsimp only))
  k_steps
  all_goals first
    | exact exc_W exc (by assumption) (by assumption) (by assumption) ⟨rfl, quo_no1 (by assumption)⟩
    | exact exc_WN exc (by assumption) (by assumption) (by assumption) ⟨rfl, quo_no (by assumption) hj3 (qpos_bad (by assumption) (by assumption) (by assumption) (by first | exact .inl (by assumption) | exact .inr (.inl (by assumption)) | exact .inr (.inr (by assumption))))⟩
    | exact exc_WN exc (by assumption) (by assumption) (by assumption) ⟨rfl, quo_no (by assumption) hj3 (qpos_escbad (by assumption) (by assumption) (by assumption) (by assumption))⟩
    | exact ret_WN ret (by assumption) (by assumption) ⟨_, quo_yes (by assumption) (by assumption) hj3 (by assumption), _, _, rfl, rfl⟩
    | exact quo_turn hj3 (by omega) (by assumption) (qpos_step (by assumption) (by assumption) (by assumption) (by omega) (by omega) (by assumption))
    | exact quo_turn hj3 (by omega) (by assumption) (qpos_esc (by assumption) (by assumption) (by first | exact .inl (by assumption) | exact .inr (by assumption)))
    | exact (no_crlf (by assumption) (by first | exact .inl (by assumption) | exact .inr (by assumption))).elim
end
section
open PySem PySem.W PyProof.Rows PySem.Calls
def strP (ks : List Int) (i : Int) : Option (List Int × Int) := if peekZ ks i = 123 then litP ks i else quoP ks i
def astP (ks : List Int) (i : Int) : Option (List Int × Int) :=
  if peekZ ks i = 34 ∨ peekZ ks i = 123 then strP ks i
  else if (runOf astrB ks i).length = 0 then none else some (runOf astrB ks i, i + (runOf astrB ks i).length)
theorem qgo_len : ∀ (n : Nat) (l : List Int), l.length ≤ n → ∀ os m, qgo l = some (os, m) → 1 ≤ m ∧ m ≤ l.length ∧ (os.length : Int) + 1 ≤ m := by
  intro n
  induction n with
  | zero =>
    intro l hl os m h
    cases l with
    | nil => rw [qgo] at h; cases h
    | cons c l => simp at hl
  | succ n ih =>
    intro l hl os m h
    cases l with
    | nil => rw [qgo] at h; cases h
    | cons c l =>
      rw [qgo_cons] at h
      simp only [List.length_cons] at hl ⊢
      split at h
      · cases h; simp; omega
      · split at h
        · cases l with
          | nil => cases h
          | cons d l' =>
            dsimp only at h
            simp only [List.length_cons] at hl ⊢
            split at h
            · cases e : qgo l' with
              | none => rw [e] at h; cases h
              | some p =>
                rw [e] at h
                obtain ⟨a, b, c⟩ := ih l' (by omega) p.1 p.2 e
                cases h
                simp only [List.length_cons]
                omega
            · cases h
        · split at h
          · cases h
          · cases e : qgo l with
            | none => rw [e] at h; cases h
            | some p =>
              rw [e] at h
              obtain ⟨a, b, c⟩ := ih l (by omega) p.1 p.2 e
              cases h
              simp only [List.length_cons]
              omega
theorem quo_bnd {ks os : List Int} {i j : Int} (h0 : 0 ≤ i) (h1 : i ≤ ks.length) (h : quoP ks i = some (os, j)) : i ≤ j ∧ j ≤ ks.length ∧ os.length ≤ ks.length := by
  unfold quoP at h
  split at h
  · rename_i hs
    have hl := skipB_le h0 h1 hs
    simp only [List.length_cons, List.length_nil] at hl
    unfold qpos at h
    cases e : qgo (ks.drop (i + 1).toNat) with
    | none => rw [e] at h; cases h
    | some p =>
      rw [e] at h
      obtain ⟨a, b, c⟩ := qgo_len _ _ (Nat.le_refl _) p.1 p.2 e
      rw [List.length_drop] at b
      cases h
      simp only [List.nil_append]
      omega
  · cases h
theorem lit_bnd {ks os : List Int} {i j : Int} (h0 : 0 ≤ i) (h1 : i ≤ ks.length) (h : litP ks i = some (os, j)) : i ≤ j ∧ j ≤ ks.length ∧ os.length ≤ ks.length := by
  unfold litP at h
  split at h
  · split at h
    · dsimp only at h
      generalize hj : (if skipB ks (i + 1 + (runOf figB ks (i + 1)).length) [43] = true then i + 1 + (runOf figB ks (i + 1)).length + 1 else i + 1 + (runOf figB ks (i + 1)).length) = i3 at h
      have hi3 : i ≤ i3 := by rw [← hj]; split <;> omega
      split at h
      · split at h
        · rename_i h4
          have h5 := numZ_run ks (i + 1)
          simp only [Option.some.injEq, Prod.mk.injEq] at h
          obtain ⟨rfl, rfl⟩ := h
          rw [List.length_take, List.length_drop]
          omega
        · cases h
      · cases h
    · cases h
  · cases h
theorem str_bnd {ks os : List Int} {i j : Int} (h0 : 0 ≤ i) (h1 : i ≤ ks.length) (h : strP ks i = some (os, j)) : i ≤ j ∧ j ≤ ks.length ∧ os.length ≤ ks.length := by
  unfold strP at h
  split at h
  · exact lit_bnd h0 h1 h
  · exact quo_bnd h0 h1 h
theorem ast_bnd {ks os : List Int} {i j : Int} (h0 : 0 ≤ i) (h1 : i ≤ ks.length) (h : astP ks i = some (os, j)) : i ≤ j ∧ j ≤ ks.length ∧ os.length ≤ ks.length := by
  unfold astP at h
  split at h
  · exact str_bnd h0 h1 h
  · split at h
    · cases h
    · cases h
      have : (runOf astrB ks i).length ≤ (ks.drop i.toNat).length := by
        unfold runOf
        exact (List.takeWhile_sublist astrB).length_le
      rw [List.length_drop] at this
      omega
end
section
open PySem PySem.W PyProof.Rows PySem.Calls
theorem str_lit {ks os : List Int} {i j : Int} (h : peekZ ks i = 123) (e : litP ks i = some (os, j)) : strP ks i = some (os, j) := by unfold strP; rw [if_pos h, e]
theorem str_quo {ks os : List Int} {i j : Int} (h : peekZ ks i ≠ 123) (e : quoP ks i = some (os, j)) : strP ks i = some (os, j) := by unfold strP; rw [if_neg h, e]
theorem str_lit0 {ks : List Int} {i : Int} (h : peekZ ks i = 123) (e : litP ks i = none) : strP ks i = none := by unfold strP; rw [if_pos h, e]
theorem str_quo0 {ks : List Int} {i : Int} (h : peekZ ks i ≠ 123) (e : quoP ks i = none) : strP ks i = none := by unfold strP; rw [if_neg h, e]
theorem string_c (w : World) {wa da : Addr} {sl : Array (Option Value)} {k1 k2 t1 : Nat} {data : Array UInt8} {ks : List Int} {i : Int} (hks : KBw.bInts data = ks) (hlen : ks.length ≤ 1000) (h0 : 0 ≤ i) (h1 : i ≤ ks.length) :
    GivesWN w 330 13 wa da (wireD w k1 k2 data t1) sl i [] (fun v j => ∃ os, strP ks i = some (os, j) ∧ ∃ b t, v = .bytes b t ∧ KBw.bInts b = os) (fun C => C = 71 ∧ strP ks i = none) := by
  k_with_none
  k_with "compareOp NotIn int bytes" => (k_here; (with_reducible show wpAny _ _ (compareOp CmpOp.NotIn (Value.int _ _) (Value.bytes _ _)) _ _ _); refine notin_bytes ?_ ?_ rfl ?_; (first | assumption | omega); (first | assumption | omega))
  k_with "compareOp In int bytes" => (k_here; (with_reducible show wpAny _ _ (compareOp CmpOp.In (Value.int _ _) (Value.bytes _ _)) _ _ _); refine in_bytes ?_ ?_ rfl ?_; (first | assumption | omega); (first | assumption | omega))
  k_with "call ref" => (k_here; (with_reducible show wpAny _ _ (call (Value.ref 71) _) _ _ _); k_dflt (refine' excCall_c _ (fault71 _) (by k_asm) (by k_asm) (by k_asm) (by k_asm) (by k_asm) (by first | exact rfl | assumption) (by ktr_room) (by ktr_units) ?_; k_whole; intro e9 t9 d9 h9 tk9 F9 N9 n1 n2 n3; (try k_sweep); (try dsimp only); (try k_fold)))
  k_with "call ref" => (k_here; (with_reducible show wpAny _ _ (call (Value.ref 83) _) _ _ _); k_dflt (refine' excCall_c _ (fault83 _) (by k_asm) (by k_asm) (by k_asm) (by k_asm) (by k_asm) (by first | exact rfl | assumption) (by ktr_room) (by ktr_units) ?_; k_whole; intro e9 t9 d9 h9 tk9 F9 N9 n1 n2 n3; (try k_sweep); (try dsimp only); (try k_fold)))
  k_with "exec Raise some none" => (k_here; refine raise_any rfl ?_)
  k_with "RaiseEnd" => (k_here; refine' raiseEnd_K (by k_asm) (by k_asm) (by k_asm) (by first | exact fault71 _ | exact fault83 _) ?_)
  k_with "leaving ref" => (k_here; k_dflt (first | (refine' leave_raiseL (by k_asm) (by k_asm) (by k_asm) (by assumption) (by assumption) (by assumption) ?_; intro h9 S9 U9) | (refine' leave_onS (by assumption) (by assumption) (by assumption) (by assumption) ?_; intro h9 S9 S9' U9)))
  k_with "callWith ref" => (k_here; (with_reducible show wpAny _ _ (callWith _ (Value.ref _) _ (backTo _ (starEach [] _)) []) _ _ _); k_dflt (refine' callWith_K0 (Frag.In.keeps (by k_asm) (Fr.keep (by k_asm))) (by k_is) ?_; k_whole))
  k_with "wpN" => (k_here; (with_reducible show wpN _ _ (_) _ _ _); k_dflt (refine wpN_of ?_; (try k_fold)))
  k_with "wpN" => (k_here; (with_reducible show wpN _ _ (execs (_ :: _) _) _ _ _); k_dflt (refine N_execs_cons ?_))
  k_with "wpN" => (k_here; (with_reducible show wpN _ _ (execs [] _) _ _ _); k_dflt (refine N_execs_nil ?_; (try dsimp only)))
  k_with "wpN" => (k_here; (with_reducible show wpN _ _ (exec (Stmt.Return (some _) _) _) _ _ _); k_dflt (refine N_Return ?_))
  k_with "wpN" => (k_here; (with_reducible show wpN _ _ (eval (Expr.IfExp _ _ _ _) _) _ _ _); k_dflt (refine N_IfExp ?_; (try k_fold)))
  k_with "wpN" => (k_here; (with_reducible show wpN _ _ (eval (Expr.Call (Expr.Attribute _ _ _) _ _ _) _) _ _ _); k_dflt (refine' N_MethodCall ?_; (try k_fold)))
  k_with "wpN" => (k_here; (with_reducible show wpN _ _ (callWith _ (Value.ref _) _ (backTo _ (starEach [] _)) []) _ _ _); k_dflt (refine' callWith_K0N (Frag.In.keeps (by k_asm) (Fr.keep (by k_asm))) (by k_is) ?_; k_whole; (try dsimp only)))
  k_with "call ref" => (k_here; (with_reducible show wpAny _ _ (call (Value.ref 225) _) _ _ _); k_dflt (refine' GivesW.use2 (D := wireD w _ _ _ _) (by k_asm) (by k_asm) (by k_asm) (by k_asm) (by k_asm) (by first | exact rfl | assumption) (by k_mem) (by (intro o9; k_upd)) (by ktr_room) (by ktr_units) (peek_x _ (by assumption) (by first | assumption | omega) (by first | assumption | omega) (by first | assumption | omega)) ?_ (by (intro _ _ _ _ _ _ _ _ x9; exact False.elim x9)); k_whole; intro v9 j9 t9 h9 tk9 r9 F9 N9; obtain ⟨⟨u9, e9⟩, e9', q9, q9', q9''⟩ := r9; subst e9; subst e9'; (try dsimp only at N9); (try k_sweep); (try dsimp only); (try k_fold)))
  k_with "call ref" => (k_here; (with_reducible show wpAny _ _ (call (Value.ref 323) _) _ _ _); k_dflt (refine' GivesW.use2 (D := wireD w _ _ _ _) (by k_asm) (by k_asm) (by k_asm) (by k_asm) (by k_asm) (by first | exact rfl | assumption) (by k_mem) (by (intro o9; k_upd)) (by ktr_room) (by ktr_units) (literal_c _ (by assumption) (by first | assumption | omega) (by first | assumption | omega) (by first | assumption | omega)) ?_ ?_; intro v9 j9 t9 h9 tk9 r9 F9 N9; obtain ⟨os9, e9, b9, u9, e9', e9''⟩ := r9; subst e9'; (have l9 := lit_bnd (by first | assumption | omega) (by first | assumption | omega) e9); (try dsimp only at N9); (try k_sweep); (try dsimp only); (try k_fold); rotate_left; intro C9 e9 t9 vs9 o9 g9 h9 tk9 x9 G9 S9 U9; obtain ⟨e9', b9⟩ := x9; subst e9'; (try dsimp only at S9); (try dsimp only); rotate_right))
  k_with "wpN" => (k_here; (with_reducible show wpN _ _ (call (Value.ref 316) _) _ _ _); k_dflt (refine' GivesWN.use2 (D := wireD w _ _ _ _) (by k_asm) (by k_asm) (by k_asm) (by k_asm) (by k_asm) (by first | exact rfl | assumption) (by k_mem) (by (intro o9; k_upd)) (by ktr_room) (by ktr_units) (quoted_c _ (by assumption) (by first | assumption | omega) (by first | assumption | omega) (by first | assumption | omega)) ?_ ?_; intro v9 j9 t9 h9 tk9 r9 F9 N9; obtain ⟨os9, e9, b9, u9, e9', e9''⟩ := r9; subst e9'; (have l9 := quo_bnd (by first | assumption | omega) (by first | assumption | omega) e9); (try dsimp only at N9); (try k_sweep); (try dsimp only); (try k_fold); rotate_left; intro C9 e9 t9 vs9 o9 g9 h9 tk9 x9 G9 S9 U9; obtain ⟨e9', b9⟩ := x9; subst e9'; (try dsimp only at S9); (try dsimp only); rotate_right))
  refine givesWN_start (fun _ => dict_ne) ?_
  intro mean mg mb dp un gd cn cs a ccd cl outer A₀ base h₀ L m s Q E rest t2 B F X N T hk hr hne hdp hun ret exc
  refine wpN_callN ?_
  k_dflt (refine' code_defN ?k1 ?k2 ?k3 ?k4 ?k5 ?kA ?kF ?kK ?k6 ?k7 ?k8 ?k9 ?kB ?_ ?c2 ?c3 ?c4 ?c5; (case kA => exact rfl); (case kF => exact rfl); (case kK => assumption); (case k1 => k_asm); (case k2 => k_asm); (case k3 => k_asm); (case k4 => k_asm); (case k5 => k_asm); (case k6 => k_is); (case k7 => k_is); (case k8 => ktr_room); (case k9 => first | exact BindsTo.of_eq rfl | exact binds_K (by k_in) rfl (by k_is) rfl rfl rfl); (case c5 => decide); (case kB => exact locs rfl); (case c2 => exact rfl); (case c3 => exact rfl); (case c4 => exact rfl); k_whole; intro g' L' h' FG' F' N' B' X' T'; (try dsimp only))
  k_steps
  all_goals first
    | exact ret_W ret (by assumption) (by assumption) ⟨_, str_lit (by assumption) (by assumption), _, _, rfl, by assumption⟩
    | exact ret_W ret (by assumption) (by assumption) ⟨_, str_quo (by assumption) (by assumption), _, _, rfl, by assumption⟩
    | exact exc_W exc (by assumption) (by assumption) (by assumption) ⟨rfl, str_lit0 (by assumption) (by assumption)⟩
    | exact exc_W exc (by assumption) (by assumption) (by assumption) ⟨rfl, str_quo0 (by assumption) (by assumption)⟩
end
section
open PySem PySem.W PyProof.Rows PySem.Calls
theorem ast_str {ks os : List Int} {i j : Int} (h : peekZ ks i = 34 ∨ peekZ ks i = 123) (e : strP ks i = some (os, j)) : astP ks i = some (os, j) := by unfold astP; rw [if_pos h, e]
theorem ast_str0 {ks : List Int} {i : Int} (h : peekZ ks i = 34 ∨ peekZ ks i = 123) (e : strP ks i = none) : astP ks i = none := by unfold astP; rw [if_pos h, e]
theorem ast_run {ks : List Int} {i : Int} (h : peekZ ks i ≠ 34) (h' : peekZ ks i ≠ 123) (e : (runOf astrB ks i).length ≠ 0) : astP ks i = some (runOf astrB ks i, i + (runOf astrB ks i).length) := by unfold astP; rw [if_neg (by omega), if_neg e]
theorem ast_run0 {ks : List Int} {i : Int} (h : peekZ ks i ≠ 34) (h' : peekZ ks i ≠ 123) (e : (runOf astrB ks i).length = 0) : astP ks i = none := by unfold astP; rw [if_neg (by omega), if_pos e]
theorem string_or_c (w : World) {wa da : Addr} {sl : Array (Option Value)} {k1 k2 t1 : Nat} {data : Array UInt8} {ks : List Int} {i : Int} (hks : KBw.bInts data = ks) (hlen : ks.length ≤ 1000) (h0 : 0 ≤ i) (h1 : i ≤ ks.length) :
    GivesWN w 337 15 wa da (wireD w k1 k2 data t1) sl i [.ref 175] (fun v j => ∃ os, astP ks i = some (os, j) ∧ ∃ b t, v = .bytes b t ∧ KBw.bInts b = os) (fun C => C = 71 ∧ astP ks i = none) := by
  k_with_none
  k_with "compareOp NotIn int bytes" => (k_here; (with_reducible show wpAny _ _ (compareOp CmpOp.NotIn (Value.int _ _) (Value.bytes _ _)) _ _ _); refine notin_bytes ?_ ?_ rfl ?_; (first | assumption | omega); (first | assumption | omega))
  k_with "compareOp In int bytes" => (k_here; (with_reducible show wpAny _ _ (compareOp CmpOp.In (Value.int _ _) (Value.bytes _ _)) _ _ _); refine in_bytes ?_ ?_ rfl ?_; (first | assumption | omega); (first | assumption | omega))
  k_with "call ref" => (k_here; (with_reducible show wpAny _ _ (call (Value.ref 71) _) _ _ _); k_dflt (refine' excCall_c _ (fault71 _) (by k_asm) (by k_asm) (by k_asm) (by k_asm) (by k_asm) (by first | exact rfl | assumption) (by ktr_room) (by ktr_units) ?_; k_whole; intro e9 t9 d9 h9 tk9 F9 N9 n1 n2 n3; (try k_sweep); (try dsimp only); (try k_fold)))
  k_with "call ref" => (k_here; (with_reducible show wpAny _ _ (call (Value.ref 83) _) _ _ _); k_dflt (refine' excCall_c _ (fault83 _) (by k_asm) (by k_asm) (by k_asm) (by k_asm) (by k_asm) (by first | exact rfl | assumption) (by ktr_room) (by ktr_units) ?_; k_whole; intro e9 t9 d9 h9 tk9 F9 N9 n1 n2 n3; (try k_sweep); (try dsimp only); (try k_fold)))
  k_with "exec Raise some none" => (k_here; refine raise_any rfl ?_)
  k_with "RaiseEnd" => (k_here; refine' raiseEnd_K (by k_asm) (by k_asm) (by k_asm) (by first | exact fault71 _ | exact fault83 _) ?_)
  k_with "leaving ref" => (k_here; k_dflt (first | (refine' leave_raiseL (by k_asm) (by k_asm) (by k_asm) (by assumption) (by assumption) (by assumption) ?_; intro h9 S9 U9) | (refine' leave_onS (by assumption) (by assumption) (by assumption) (by assumption) ?_; intro h9 S9 S9' U9)))
  k_with "callWith ref" => (k_here; (with_reducible show wpAny _ _ (callWith _ (Value.ref _) _ (backTo _ (starEach [] _)) []) _ _ _); k_dflt (refine' callWith_K0 (Frag.In.keeps (by k_asm) (Fr.keep (by k_asm))) (by k_is) ?_; k_whole))
  k_with "wpN" => (k_here; (with_reducible show wpN _ _ (_) _ _ _); k_dflt (refine wpN_of ?_; (try k_fold)))
  k_with "wpN" => (k_here; (with_reducible show wpN _ _ (execs (_ :: _) _) _ _ _); k_dflt (refine N_execs_cons ?_))
  k_with "wpN" => (k_here; (with_reducible show wpN _ _ (execs [] _) _ _ _); k_dflt (refine N_execs_nil ?_; (try dsimp only)))
  k_with "wpN" => (k_here; (with_reducible show wpN _ _ (exec (Stmt.Return (some (Expr.Call (Expr.Attribute _ _ _) _ _ _)) _) _) _ _ _); k_dflt (refine N_Return ?_))
  k_with "wpN" => (k_here; (with_reducible show wpN _ _ (eval (Expr.Call (Expr.Attribute _ _ _) _ _ _) _) _ _ _); k_dflt (refine' N_MethodCall ?_; (try k_fold)))
  k_with "wpN" => (k_here; (with_reducible show wpN _ _ (callWith _ (Value.ref _) _ (backTo _ (starEach [] _)) []) _ _ _); k_dflt (refine' callWith_K0N (Frag.In.keeps (by k_asm) (Fr.keep (by k_asm))) (by k_is) ?_; k_whole; (try dsimp only)))
  k_with "wpN" => (k_here; (with_reducible show wpN _ _ (exec (Stmt.If _ _ _ _) _) _ _ _); k_dflt (refine N_If ?_; (try k_fold)))
  k_with "call ref" => (k_here; (with_reducible show wpAny _ _ (call (Value.ref 225) _) _ _ _); k_dflt (refine' GivesW.use2 (D := wireD w _ _ _ _) (by k_asm) (by k_asm) (by k_asm) (by k_asm) (by k_asm) (by first | exact rfl | assumption) (by k_mem) (by (intro o9; k_upd)) (by ktr_room) (by ktr_units) (peek_x _ (by assumption) (by first | assumption | omega) (by first | assumption | omega) (by first | assumption | omega)) ?_ (by (intro _ _ _ _ _ _ _ _ x9; exact False.elim x9)); k_whole; intro v9 j9 t9 h9 tk9 r9 F9 N9; obtain ⟨⟨u9, e9⟩, e9', q9, q9', q9''⟩ := r9; subst e9; subst e9'; (try dsimp only at N9); (try k_sweep); (try dsimp only); (try k_fold)))
  k_with "wpN" => (k_here; (with_reducible show wpN _ _ (call (Value.ref 330) _) _ _ _); k_dflt (refine' GivesWN.use2 (D := wireD w _ _ _ _) (by k_asm) (by k_asm) (by k_asm) (by k_asm) (by k_asm) (by first | exact rfl | assumption) (by k_mem) (by (intro o9; k_upd)) (by ktr_room) (by ktr_units) (string_c _ (by assumption) (by first | assumption | omega) (by first | assumption | omega) (by first | assumption | omega)) ?_ ?_; intro v9 j9 t9 h9 tk9 r9 F9 N9; obtain ⟨os9, e9, b9, u9, e9', e9''⟩ := r9; subst e9'; (have l9 := str_bnd (by first | assumption | omega) (by first | assumption | omega) e9); (try dsimp only at N9); (try k_sweep); (try dsimp only); (try k_fold); rotate_left; intro C9 e9 t9 vs9 o9 g9 h9 tk9 x9 G9 S9 U9; obtain ⟨e9', b9⟩ := x9; subst e9'; (try dsimp only at S9); (try dsimp only); rotate_right))
  k_with "call ref" => (k_here; (with_reducible show wpAny _ _ (call (Value.ref 260) _) _ _ _); k_dflt (refine' GivesW.use2 (D := wireD w _ _ _ _) (by k_asm) (by k_asm) (by k_asm) (by k_asm) (by k_asm) (by first | exact rfl | assumption) (by k_mem) (by (intro o9; k_upd)) (by ktr_room) (by ktr_units) (run_astr_c _ (by assumption) (by first | assumption | omega) (by first | assumption | omega) (by first | assumption | omega)) ?_ (by (intro _ _ _ _ _ _ _ _ x9; exact False.elim x9)); k_whole; intro v9 j9 t9 h9 tk9 r9 F9 N9; obtain ⟨⟨b9, u9, e9, hb9⟩, e9'⟩ := r9; subst e9; subst e9'; (have hl9 := runOf_at hb9 (by assumption) (by first | assumption | omega) (by first | assumption | omega)); have hl8 := hl9.2; (try dsimp only at N9); (try k_sweep); (try dsimp only); (try k_fold)))
  k_with "call type:bytes" => (k_here; (with_reducible show wpAny _ _ (call (Value.type "bytes") [Value.bytes _ _]) _ _ _); refine BA.call_bytes_bytes ?_; intro t9 k9)
  refine givesWN_start (fun _ => dict_ne) ?_
  intro mean mg mb dp un gd cn cs a ccd cl outer A₀ base h₀ L m s Q E rest t2 B F X N T hk hr hne hdp hun ret exc
  refine wpN_callN ?_
  k_dflt (refine' code_defN ?k1 ?k2 ?k3 ?k4 ?k5 ?kA ?kF ?kK ?k6 ?k7 ?k8 ?k9 ?kB ?_ ?c2 ?c3 ?c4 ?c5; (case kA => exact rfl); (case kF => exact rfl); (case kK => assumption); (case k1 => k_asm); (case k2 => k_asm); (case k3 => k_asm); (case k4 => k_asm); (case k5 => k_asm); (case k6 => k_is); (case k7 => k_is); (case k8 => ktr_room); (case k9 => first | exact BindsTo.of_eq rfl | exact binds_K (by k_in) rfl (by k_is) rfl rfl rfl); (case c5 => decide); (case kB => exact locs rfl); (case c2 => exact rfl); (case c3 => exact rfl); (case c4 => exact rfl); k_whole; intro g' L' h' FG' F' N' B' X' T'; (try dsimp only))
  k_steps
  all_goals first
    | exact ret_W ret (by assumption) (by assumption) ⟨_, ast_str (.inl (by assumption)) (by assumption), _, _, rfl, by assumption⟩
    | exact ret_W ret (by assumption) (by assumption) ⟨_, ast_str (.inr (by assumption)) (by assumption), _, _, rfl, by assumption⟩
    | exact ret_W ret (by assumption) (by assumption) ⟨_, ast_run (by assumption) (by assumption) (by omega), _, _, rfl, by assumption⟩
    | exact exc_W exc (by assumption) (by assumption) (by assumption) ⟨rfl, ast_str0 (.inl (by assumption)) (by assumption)⟩
    | exact exc_W exc (by assumption) (by assumption) (by assumption) ⟨rfl, ast_str0 (.inr (by assumption)) (by assumption)⟩
    | exact exc_W exc (by assumption) (by assumption) (by assumption) ⟨rfl, ast_run0 (by assumption) (by assumption) (by omega)⟩
end
section
open PySem PySem.W PyProof.Rows PySem.Calls
theorem astring_c (w : World) {wa da : Addr} {sl : Array (Option Value)} {k1 k2 t1 : Nat} {data : Array UInt8} {ks : List Int} {i : Int} (hks : KBw.bInts data = ks) (hlen : ks.length ≤ 1000) (h0 : 0 ≤ i) (h1 : i ≤ ks.length) :
    GivesWN w 344 17 wa da (wireD w k1 k2 data t1) sl i [] (fun v j => ∃ os, astP ks i = some (os, j) ∧ ∃ b t, v = .bytes b t ∧ KBw.bInts b = os) (fun C => C = 71 ∧ astP ks i = none) := by
  k_with_none
  k_with "compareOp NotIn int bytes" => (k_here; (with_reducible show wpAny _ _ (compareOp CmpOp.NotIn (Value.int _ _) (Value.bytes _ _)) _ _ _); refine notin_bytes ?_ ?_ rfl ?_; (first | assumption | omega); (first | assumption | omega))
  k_with "compareOp In int bytes" => (k_here; (with_reducible show wpAny _ _ (compareOp CmpOp.In (Value.int _ _) (Value.bytes _ _)) _ _ _); refine in_bytes ?_ ?_ rfl ?_; (first | assumption | omega); (first | assumption | omega))
  k_with "call ref" => (k_here; (with_reducible show wpAny _ _ (call (Value.ref 71) _) _ _ _); k_dflt (refine' excCall_c _ (fault71 _) (by k_asm) (by k_asm) (by k_asm) (by k_asm) (by k_asm) (by first | exact rfl | assumption) (by ktr_room) (by ktr_units) ?_; k_whole; intro e9 t9 d9 h9 tk9 F9 N9 n1 n2 n3; (try k_sweep); (try dsimp only); (try k_fold)))
  k_with "call ref" => (k_here; (with_reducible show wpAny _ _ (call (Value.ref 83) _) _ _ _); k_dflt (refine' excCall_c _ (fault83 _) (by k_asm) (by k_asm) (by k_asm) (by k_asm) (by k_asm) (by first | exact rfl | assumption) (by ktr_room) (by ktr_units) ?_; k_whole; intro e9 t9 d9 h9 tk9 F9 N9 n1 n2 n3; (try k_sweep); (try dsimp only); (try k_fold)))
  k_with "exec Raise some none" => (k_here; refine raise_any rfl ?_)
  k_with "RaiseEnd" => (k_here; refine' raiseEnd_K (by k_asm) (by k_asm) (by k_asm) (by first | exact fault71 _ | exact fault83 _) ?_)
  k_with "leaving ref" => (k_here; k_dflt (first | (refine' leave_raiseL (by k_asm) (by k_asm) (by k_asm) (by assumption) (by assumption) (by assumption) ?_; intro h9 S9 U9) | (refine' leave_onS (by assumption) (by assumption) (by assumption) (by assumption) ?_; intro h9 S9 S9' U9)))
  k_with "callWith ref" => (k_here; (with_reducible show wpAny _ _ (callWith _ (Value.ref _) _ (backTo _ (starEach [] _)) []) _ _ _); k_dflt (refine' callWith_K0 (Frag.In.keeps (by k_asm) (Fr.keep (by k_asm))) (by k_is) ?_; k_whole))
  k_with "wpN" => (k_here; (with_reducible show wpN _ _ (_) _ _ _); k_dflt (refine wpN_of ?_; (try k_fold)))
  k_with "wpN" => (k_here; (with_reducible show wpN _ _ (execs (_ :: _) _) _ _ _); k_dflt (refine N_execs_cons ?_))
  k_with "wpN" => (k_here; (with_reducible show wpN _ _ (execs [] _) _ _ _); k_dflt (refine N_execs_nil ?_; (try dsimp only)))
  k_with "wpN" => (k_here; (with_reducible show wpN _ _ (exec (Stmt.Return (some (Expr.Call (Expr.Attribute _ _ _) _ _ _)) _) _) _ _ _); k_dflt (refine N_Return ?_))
  k_with "wpN" => (k_here; (with_reducible show wpN _ _ (eval (Expr.Call (Expr.Attribute _ _ _) _ _ _) _) _ _ _); k_dflt (refine' N_MethodCall ?_; (try k_fold)))
  k_with "wpN" => (k_here; (with_reducible show wpN _ _ (callWith _ (Value.ref _) _ (backTo _ (starEach (_ :: _) _)) []) _ _ _); k_dflt (refine' callWith_KN (by k_asm) (by k_is) ?_; k_whole; (try k_fold)))
  k_with "wpN" => (k_here; (with_reducible show wpN _ _ (call (Value.ref 337) _) _ _ _); k_dflt (refine' GivesWN.use2 (D := wireD w _ _ _ _) (by k_asm) (by k_asm) (by k_asm) (by k_asm) (by k_asm) (by first | exact rfl | assumption) (by k_mem) (by (intro o9; k_upd)) (by ktr_room) (by ktr_units) (string_or_c _ (by assumption) (by first | assumption | omega) (by first | assumption | omega) (by first | assumption | omega)) ?_ ?_; intro v9 j9 t9 h9 tk9 r9 F9 N9; obtain ⟨os9, e9, b9, u9, e9', e9''⟩ := r9; subst e9'; (have l9 := ast_bnd (by first | assumption | omega) (by first | assumption | omega) e9); (try dsimp only at N9); (try k_sweep); (try dsimp only); (try k_fold); rotate_left; intro C9 e9 t9 vs9 o9 g9 h9 tk9 x9 G9 S9 U9; obtain ⟨e9', b9⟩ := x9; subst e9'; (try dsimp only at S9); (try dsimp only); rotate_right))
  refine givesWN_start (fun _ => dict_ne) ?_
  intro mean mg mb dp un gd cn cs a ccd cl outer A₀ base h₀ L m s Q E rest t2 B F X N T hk hr hne hdp hun ret exc
  refine wpN_callN ?_
  k_dflt (refine' code_defN ?k1 ?k2 ?k3 ?k4 ?k5 ?kA ?kF ?kK ?k6 ?k7 ?k8 ?k9 ?kB ?_ ?c2 ?c3 ?c4 ?c5; (case kA => exact rfl); (case kF => exact rfl); (case kK => assumption); (case k1 => k_asm); (case k2 => k_asm); (case k3 => k_asm); (case k4 => k_asm); (case k5 => k_asm); (case k6 => k_is); (case k7 => k_is); (case k8 => ktr_room); (case k9 => first | exact BindsTo.of_eq rfl | exact binds_K (by k_in) rfl (by k_is) rfl rfl rfl); (case c5 => decide); (case kB => exact locs rfl); (case c2 => exact rfl); (case c3 => exact rfl); (case c4 => exact rfl); k_whole; intro g' L' h' FG' F' N' B' X' T'; (try dsimp only))
  k_steps
  all_goals first
    | exact ret_W ret (by assumption) (by assumption) ⟨_, by assumption, _, _, rfl, by assumption⟩
    | exact exc_W exc (by assumption) (by assumption) (by assumption) ⟨rfl, by assumption⟩
end
section
open PySem PySem.W PyProof.Rows PySem.Calls
def GivesWB (w : World) (f : Addr) (dk : Nat) (wa da : Addr) (D : Int → Tok → Obj) (sl : Array (Option Value)) (i : Int) (xs : List Value) (R : Value → Int → Prop) (XC : Addr → Prop) : Prop :=
  ∀ (mean : ExcName → Option Value) (mg mb : PySem.Str → Option Value) (dp un : Nat) (gd : Option (List Code)) (cn : PySem.Str) (cs : Scope) (a : Addr) (ccd : Value) (cl : List (PySem.Str × Addr)) (outer : List Env) (A₀ : Around) (base h₀ : Heap) (L : Addr) (m : PySem.Str → Option Value) (s : Shared) (Q E : Value → Shared → Prop) (news : List (Addr × Obj)) (upd : Obj → List (Addr × Obj)) (t2 : Tok),
    Below A₀ base outer h₀ → Fr h₀ L s.heap m → (hd.heap_1 w.params).In h₀ → News h₀ L s.heap news → Top viewQ (looseW viewQ [PySem.Str.ofString "PostError"]) mean mg mb h₀ → cs.kind = .function →
    (hd.heap_1 w.params).In base → Top viewQ (looseW viewQ [PySem.Str.ofString "PostError"]) mean mg mb base → (∀ o', Upd da (D i t2) o' news (upd o')) → (wa, wireO da sl) ∈ news →
    dp + dk < recursionLimit → un + 8 * dk < cLine →
    (∀ v j t2' h' tk', R v j → Fr h₀ L h' m → News h₀ L h' (upd (D j t2')) → Q v { s with heap := h', toks := tk' }) →
    (∀ C e t vs o' g₂ h' tk', XC C → Fr h₀ L g₂ m → RaisedS base g₂ (envX cn cs L a ccd cl :: outer) e (.ref C) t vs (upd o') h' → g₂.UpToSlots h' → E (.ref e) { s with heap := h', toks := tk' }) →
    wpN (model PySem.Challenge.rw_or0059_01.row.prog w) (ktrTop dp un gd cn cs L a ccd cl outer) (call (.ref f) (.ref wa :: xs)) Q E s
theorem givesWB_start {w : World} {f : Addr} {dk : Nat} {wa da : Addr} {D : Int → Tok → Obj} {sl : Array (Option Value)} {i : Int} {xs : List Value} {R : Value → Int → Prop} {XC : Addr → Prop}
    (hD : ∀ t, D i t ≠ wireO da sl)
    (h : ∀ (mean : ExcName → Option Value) (mg mb : PySem.Str → Option Value) (dp un : Nat) (gd : Option (List Code)) (cn : PySem.Str) (cs : Scope) (a : Addr) (ccd : Value) (cl : List (PySem.Str × Addr)) (outer : List Env) (A₀ : Around) (base h₀ : Heap) (L : Addr) (m : PySem.Str → Option Value) (s : Shared) (Q E : Value → Shared → Prop) (rest : List (Addr × Obj)) (t2 : Tok),
      Below A₀ base outer h₀ → Fr h₀ L s.heap m → (hd.heap_1 w.params).In h₀ → News h₀ L s.heap ((da, D i t2) :: (wa, wireO da sl) :: rest) → Top viewQ (looseW viewQ [PySem.Str.ofString "PostError"]) mean mg mb h₀ → cs.kind = .function → (hd.heap_1 w.params).In base → Top viewQ (looseW viewQ [PySem.Str.ofString "PostError"]) mean mg mb base →
      (∀ p ∈ rest, p.1 ≠ da) → @Ne Nat wa da →
      dp + dk < recursionLimit → un + 8 * dk < cLine →
      (∀ v j t2' h' tk', R v j → Fr h₀ L h' m → News h₀ L h' ((da, D j t2') :: (wa, wireO da sl) :: rest) → Q v { s with heap := h', toks := tk' }) →
      (∀ C e t vs o' g₂ h' tk', XC C → Fr h₀ L g₂ m → RaisedS base g₂ (envX cn cs L a ccd cl :: outer) e (.ref C) t vs ((da, o') :: (wa, wireO da sl) :: rest) h' → g₂.UpToSlots h' → E (.ref e) { s with heap := h', toks := tk' }) →
      wpN (model PySem.Challenge.rw_or0059_01.row.prog w) (ktrTop dp un gd cn cs L a ccd cl outer) (call (.ref f) (.ref wa :: xs)) Q E s) :
    GivesWB w f dk wa da D sl i xs R XC := by
  intro mean mg mb dp un gd cn cs a ccd cl outer A₀ base h₀ L m s Q E news upd t2 B F X N T hk XB TB U hm hdp hun ret exc
  obtain ⟨pre, post, e1, e2, n1, n2⟩ := (U (D i t2)).split
  have hne : wa ≠ da := by
    intro q
    have x1 := (N _ hm).1
    have x2 := (N (da, D i t2) (by rw [e1]; simp)).1
    rw [q] at x1
    rw [x1] at x2
    exact hD t2 (Option.some.inj x2).symm
  have key : ∀ o', ∀ p ∈ upd o', p ∈ (da, o') :: (wa, wireO da sl) :: (pre ++ post) := by
    intro o' p hp
    obtain ⟨pre', post', f1, f2, m1, m2⟩ := (U o').split
    have : ∀ (l₁ l₂ r₁ r₂ : List (Addr × Obj)) (o : Obj), l₁ ++ (da, o) :: r₁ = l₂ ++ (da, o) :: r₂ → (∀ p ∈ l₁, p.1 ≠ da) → (∀ p ∈ l₂, p.1 ≠ da) → l₁ = l₂ ∧ r₁ = r₂ := by
      intro l₁
      induction l₁ with
      | nil =>
        intro l₂ r₁ r₂ o e _ h2
        cases l₂ with
        | nil => exact ⟨rfl, by simpa using e⟩
        | cons x l₂ =>
          simp only [List.nil_append, List.cons_append, List.cons.injEq] at e
          exact absurd (by rw [← e.1]) (h2 x (List.mem_cons_self ..))
      | cons x l₁ ih =>
        intro l₂ r₁ r₂ o e h1 h2
        cases l₂ with
        | nil =>
          simp only [List.nil_append, List.cons_append, List.cons.injEq] at e
          exact absurd (by rw [e.1]) (h1 x (List.mem_cons_self ..))
        | cons y l₂ =>
          simp only [List.cons_append, List.cons.injEq] at e
          obtain ⟨a1, a2⟩ := ih l₂ r₁ r₂ o e.2 (fun p hp => h1 p (List.mem_cons_of_mem _ hp)) fun p hp => h2 p (List.mem_cons_of_mem _ hp)
          exact ⟨by rw [e.1, a1], a2⟩
    obtain ⟨rfl, rfl⟩ := this _ _ _ _ _ (e1.symm.trans f1) n1 m1
    rw [f2] at hp
    simp only [List.mem_append, List.mem_cons] at hp ⊢
    rcases hp with hp | hp | hp
    · exact .inr (.inr (.inl hp))
    · exact .inl hp
    · exact .inr (.inr (.inr hp))
  refine h mean mg mb dp un gd cn cs a ccd cl outer A₀ base h₀ L m s Q E (pre ++ post) t2 B F X ?_ T hk XB TB ?_ hne hdp hun ?_ ?_
  · intro p hp
    rcases List.mem_cons.mp hp with rfl | hp
    · exact N _ (by rw [e1]; simp)
    · rcases List.mem_cons.mp hp with rfl | hp
      · exact N _ hm
      · exact N _ (by rw [e1]; simp only [List.mem_append, List.mem_cons] at hp ⊢; rcases hp with hp | hp; exact .inl hp; exact .inr (.inr hp))
  · intro p hp
    rcases List.mem_append.mp hp with hp | hp
    · exact n1 p hp
    · exact n2 p hp
  · intro v j t2' h' tk' hR F' N'
    exact ret v j t2' h' tk' hR F' fun p hp => N' p (key _ p hp)
  · intro C e t vs o' g₂ h' tk' hC F' R' U'
    exact exc C e t vs o' g₂ h' tk' hC F' (RaisedS.sub R' fun p hp => key _ p hp) U'
theorem GivesWB.use {w : World} {f : Addr} {dk : Nat} {wa da : Addr} {D : Int → Tok → Obj} {sl : Array (Option Value)} {i : Int} {xs : List Value} {R : Value → Int → Prop} {XC : Addr → Prop} (G : GivesWB w f dk wa da D sl i xs R XC)
    {mean : ExcName → Option Value} {mg mb : PySem.Str → Option Value} {dp un : Nat} {gd : Option (List Code)} {cn : PySem.Str} {cs : Scope} {a : Addr} {ccd : Value} {cl : List (PySem.Str × Addr)} {outer : List Env} {A₀ : Around} {base h₀ : Heap} {L : Addr} {m : PySem.Str → Option Value} {s : Shared} {Q E : Value → Shared → Prop} {news : List (Addr × Obj)} {upd : Obj → List (Addr × Obj)} {t2 : Tok}
    (B : Below A₀ base outer h₀) (F : Fr h₀ L s.heap m) (X : (hd.heap_1 w.params).In h₀) (N : News h₀ L s.heap news) (T : Top viewQ (looseW viewQ [PySem.Str.ofString "PostError"]) mean mg mb h₀) (hk : cs.kind = .function) (XB : (hd.heap_1 w.params).In base) (TB : Top viewQ (looseW viewQ [PySem.Str.ofString "PostError"]) mean mg mb base)
    (hm : (wa, wireO da sl) ∈ news) (U : ∀ o', Upd da (D i t2) o' news (upd o'))
    (hdp : dp + dk < recursionLimit) (hun : un + 8 * dk < cLine)
    (ret : ∀ v j t2' h' tk', R v j → Fr h₀ L h' m → News h₀ L h' (upd (D j t2')) → Q v { s with heap := h', toks := tk' })
    (exc : ∀ C e t vs o' g₂ h' tk', XC C → Fr h₀ L g₂ m → RaisedS base g₂ (envX cn cs L a ccd cl :: outer) e (.ref C) t vs (upd o') h' → g₂.UpToSlots h' → E (.ref e) { s with heap := h', toks := tk' }) :
    wpN (model PySem.Challenge.rw_or0059_01.row.prog w) (ktrTop dp un gd cn cs L a ccd cl outer) (call (.ref f) (.ref wa :: xs)) Q E s :=
  G mean mg mb dp un gd cn cs a ccd cl outer A₀ base h₀ L m s Q E news upd t2 B F X N T hk XB TB U hm hdp hun ret exc
theorem GivesWB.use2 {w : World} {f : Addr} {dk : Nat} {wa da : Addr} {D : Int → Tok → Obj} {sl : Array (Option Value)} {i : Int} {xs : List Value} {R : Value → Int → Prop} {XC : Addr → Prop}
    {mean : ExcName → Option Value} {mg mb : PySem.Str → Option Value} {dp un : Nat} {gd : Option (List Code)} {cn : PySem.Str} {cs : Scope} {a : Addr} {ccd : Value} {cl : List (PySem.Str × Addr)} {outer : List Env} {A₀ : Around} {base h₀ : Heap} {L : Addr} {m : PySem.Str → Option Value} {s : Shared} {Q E : Value → Shared → Prop} {news : List (Addr × Obj)} {upd : Obj → List (Addr × Obj)} {t2 : Tok}
    (B : Below A₀ base outer h₀) (F : Fr h₀ L s.heap m) (X : (hd.heap_1 w.params).In h₀) (N : News h₀ L s.heap news) (T : Top viewQ (looseW viewQ [PySem.Str.ofString "PostError"]) mean mg mb h₀) (hk : cs.kind = .function) (XB : (hd.heap_1 w.params).In base) (TB : Top viewQ (looseW viewQ [PySem.Str.ofString "PostError"]) mean mg mb base)
    (hm : (wa, wireO da sl) ∈ news) (U : ∀ o', Upd da (D i t2) o' news (upd o'))
    (hdp : dp + dk < recursionLimit) (hun : un + 8 * dk < cLine) (G : GivesWB w f dk wa da D sl i xs R XC)
    (ret : ∀ v j t2' h' tk', R v j → Fr h₀ L h' m → News h₀ L h' (upd (D j t2')) → Q v { s with heap := h', toks := tk' })
    (exc : ∀ C e t vs o' g₂ h' tk', XC C → Fr h₀ L g₂ m → RaisedS base g₂ (envX cn cs L a ccd cl :: outer) e (.ref C) t vs (upd o') h' → g₂.UpToSlots h' → E (.ref e) { s with heap := h', toks := tk' }) :
    wpN (model PySem.Challenge.rw_or0059_01.row.prog w) (ktrTop dp un gd cn cs L a ccd cl outer) (call (.ref f) (.ref wa :: xs)) Q E s :=
  G mean mg mb dp un gd cn cs a ccd cl outer A₀ base h₀ L m s Q E news upd t2 B F X N T hk XB TB U hm hdp hun ret exc
section
variable {prog : Program} {w : World} {A : Around} {E : Value → Shared → Prop} {s : Shared} {env : Env}
theorem N_Try {body orelse : List Stmt} {hd0 : ExceptHandler} {hs : List ExceptHandler} {pos : Pos} {Q : Flow → Shared → Prop}
    (h : wpN (model prog w) A (execs body env) (fun f s₁ => match f with | .next => wpN (model prog w) A (execs orelse env) Q E s₁ | f => Q f s₁)
      (fun e s₁ => wpAny (model prog w) A (noteFrame e env) (fun _ s₂ => wpAny (model prog w) A (setFlight e none) (fun _ s₃ => wpAny (model prog w) A (handleBy e env (hd0 :: hs)) Q E s₃) E s₂) E s₁) s) :
    wpN (model prog w) A (exec (.Try body (hd0 :: hs) orelse [] pos) env) Q E s := by
  rw [arm_exec_Try]
  refine wpN_bindA (wpAny_standAt ?_)
  unfold tryStmt
  simp only [List.isEmpty_nil, if_true, List.isEmpty_cons, Bool.false_and, Bool.false_eq_true, if_false]
  refine wpN_bind (wpN_attempt (wpN_mono h (fun f s₁ h₁ => ?_) fun e s₁ h₁ => ?_))
  · cases f <;> first | exact h₁ | exact wpN_pure h₁
  · exact wpN_of (wpAny_bind (wpAny_mono h₁ (fun _ _ h₂ => wpAny_bind h₂) fun _ _ x => x))
end
section
variable {prog : Program} {w : World} {A₀ : Around} {E : Value → Shared → Prop} {s' : Shared} {base g G : Heap} {outer : List Env} {L a e t : Addr} {m : PySem.Str → Option Value} {name : PySem.Str} {scope : Scope} {cd cls : Value}
  {vs : List Value} {pos : Pos} {rest hs : List ExceptHandler} {Q : Flow → Shared → Prop} {news : List (Addr × Obj)} {KF : Frag} {tt : Expr} {nm : Option PySem.Str} {body : List Stmt}
  {p : Program} {loose : List PySem.Str} {mean : ExcName → Option Value} {mg mb : PySem.Str → Option Value}
theorem look_W (R : RaisedS base G (envOf name scope L a cd :: outer) e cls t vs news s'.heap) (K : Below A₀ base outer g) (hsm : G.UpToSlots s'.heap)
    (k : ∀ h', RaisedS base G (envOf name scope L a cd :: outer) e cls t vs news h' → G.UpToSlots h' → wpAny (model prog w) (A₀.deeper (envOf name scope L a cd)) (handleBy (.ref e) (envOf name scope L a cd) hs) Q E { s' with heap := h' }) :
    wpAny (model prog w) (A₀.deeper (envOf name scope L a cd)) (noteFrame (.ref e) (envOf name scope L a cd))
      (fun _ s₂ => wpAny (model prog w) (A₀.deeper (envOf name scope L a cd)) (setFlight (.ref e) none) (fun _ s₃ =>
        wpAny (model prog w) (A₀.deeper (envOf name scope L a cd)) (handleBy (.ref e) (envOf name scope L a cd) hs) Q E s₃) E s₂) E s' := by
  obtain ⟨⟨B, hB, hBG, hl, hfl, hnew⟩, htup⟩ := R
  refine wpAny_looks_onW (Around.frames_deeper K.stack) rfl hfl fun h₄ hheld₄ hsm₄ => wpAny_landsW hheld₄ fun h₅ hheld hsm₅' => ?_
  exact k h₅ ⟨⟨B, hB, hBG, hl, hheld, hnew⟩, htup.of_slots (hsm₄.trans hsm₅')⟩ (hsm.trans (hsm₄.trans hsm₅'))
theorem pass_W (R : RaisedS base G (envOf name scope L a cd :: outer) e cls t vs news s'.heap) (F : Fr g L G m) (K : Below A₀ base outer g) (hsm : G.UpToSlots s'.heap) (XB : KF.In base) (TB : Top p loose mean mg mb base)
    (T : KtsTest prog w KF p loose mg mb name scope L a cd cls tt false)
    (k : ∀ h', RaisedS base G (envOf name scope L a cd :: outer) e cls t vs news h' → G.UpToSlots h' → wpAny (model prog w) (A₀.deeper (envOf name scope L a cd)) (handleBy (.ref e) (envOf name scope L a cd) rest) Q E { s' with heap := h' }) :
    wpAny (model prog w) (A₀.deeper (envOf name scope L a cd)) (handleBy (.ref e) (envOf name scope L a cd) (.ExceptHandler (some tt) nm body pos :: rest)) Q E s' := by
  obtain ⟨⟨B, _, hBG, _, hfl, _⟩, _⟩ := id R
  obtain ⟨g₅, _, F₅, K₅⟩ := kts_ground K F hBG hfl.1 hsm
  refine wpAny_handleBy_cons (codeAny_handlers_test (T _ _ _ _ g₅ e m F₅ (XB.keeps K₅.stays) (topRead_of (TB.keeps K₅.stays)) R.toSN.ty fun h' kp => ?_)) (by intro q; cases q)
  exact k h' (R.keeps kp) (hsm.trans (Heap.UpToSlots.of_keeps kp))
end
def wordP (ks : List Int) (i : Int) : Option (List Int × Int) := if skipB ks i [32] = true then astP ks (i + 1) else none
def numP (ks : List Int) (i : Int) : Option (Int × Int) := if 0 < (runOf figB ks i).length ∧ (runOf figB ks i).length ≤ 19 then some (numZ (runOf figB ks i), i + (runOf figB ks i).length) else none
theorem mem_qgo : ∀ (n : Nat) (l : List Int), l.length ≤ n → ∀ os m, qgo l = some (os, m) → ∀ x ∈ os, x ∈ l := by
  intro n
  induction n with
  | zero =>
    intro l hl os m h
    cases l with
    | nil => rw [qgo] at h; cases h
    | cons c l => simp at hl
  | succ n ih =>
    intro l hl os m h
    cases l with
    | nil => rw [qgo] at h; cases h
    | cons c l =>
      rw [qgo_cons] at h
      simp only [List.length_cons] at hl
      split at h
      · cases h; intro x hx; cases hx
      · split at h
        · cases l with
          | nil => cases h
          | cons d l' =>
            dsimp only at h
            simp only [List.length_cons] at hl
            split at h
            · cases e : qgo l' with
              | none => rw [e] at h; cases h
              | some p =>
                rw [e] at h
                have q := ih l' (by omega) p.1 p.2 e
                cases h
                intro x hx
                rcases List.mem_cons.mp hx with rfl | hx
                · simp
                · exact List.mem_cons_of_mem _ (List.mem_cons_of_mem _ (q x hx))
            · cases h
        · split at h
          · cases h
          · cases e : qgo l with
            | none => rw [e] at h; cases h
            | some p =>
              rw [e] at h
              have q := ih l (by omega) p.1 p.2 e
              cases h
              intro x hx
              rcases List.mem_cons.mp hx with rfl | hx
              · simp
              · exact List.mem_cons_of_mem _ (q x hx)
theorem mem_quo {ks os : List Int} {i j : Int} (h : quoP ks i = some (os, j)) : ∀ x ∈ os, x ∈ ks := by
  unfold quoP at h
  split at h
  · unfold qpos at h
    cases e : qgo (ks.drop (i + 1).toNat) with
    | none => rw [e] at h; cases h
    | some p =>
      rw [e] at h
      have q := mem_qgo _ _ (Nat.le_refl _) p.1 p.2 e
      cases h
      intro x hx
      exact List.mem_of_mem_drop (q x (by simpa using hx))
  · cases h
theorem mem_lit {ks os : List Int} {i j : Int} (h : litP ks i = some (os, j)) : ∀ x ∈ os, x ∈ ks := by
  unfold litP at h
  split at h
  · split at h
    · dsimp only at h
      generalize (if skipB ks (i + 1 + (runOf figB ks (i + 1)).length) [43] = true then i + 1 + (runOf figB ks (i + 1)).length + 1 else i + 1 + (runOf figB ks (i + 1)).length) = i3 at h
      split at h
      · split at h
        · simp only [Option.some.injEq, Prod.mk.injEq] at h
          obtain ⟨rfl, rfl⟩ := h
          intro x hx
          exact List.mem_of_mem_drop (List.mem_of_mem_take hx)
        · cases h
      · cases h
    · cases h
  · cases h
theorem mem_ast {ks os : List Int} {i j : Int} (h : astP ks i = some (os, j)) : ∀ x ∈ os, x ∈ ks := by
  unfold astP at h
  split at h
  · unfold strP at h
    split at h
    · exact mem_lit h
    · exact mem_quo h
  · split at h
    · cases h
    · cases h
      intro x hx
      exact List.mem_of_mem_drop ((List.takeWhile_sublist astrB).subset hx)
theorem word_yes {ks os : List Int} {i j : Int} (h : skipB ks i [32] = true) (e : astP ks (i + 1) = some (os, j)) : wordP ks i = some (os, j) := by unfold wordP; rw [if_pos h, e]
theorem word_no1 {ks : List Int} {i : Int} (h : skipB ks i [32] = false) : wordP ks i = none := by unfold wordP; rw [if_neg (by rw [h]; exact Bool.false_ne_true)]
theorem word_no2 {ks : List Int} {i : Int} (h : skipB ks i [32] = true) (e : astP ks (i + 1) = none) : wordP ks i = none := by unfold wordP; rw [if_pos h, e]
theorem word_bnd {ks os : List Int} {i j : Int} (h0 : 0 ≤ i) (h1 : i ≤ ks.length) (h : wordP ks i = some (os, j)) : i ≤ j ∧ j ≤ ks.length ∧ os.length ≤ ks.length ∧ ∀ x ∈ os, x ∈ ks := by
  unfold wordP at h
  split at h
  · rename_i hs
    have hl := skipB_le h0 h1 hs
    simp only [List.length_cons, List.length_nil] at hl
    obtain ⟨a, b, c⟩ := ast_bnd (by omega) (by omega) h
    exact ⟨by omega, b, c, mem_ast h⟩
  · cases h
end
section
open PySem PySem.W PyProof.Rows PySem.Calls
theorem space_x (w : World) {wa da : Addr} {sl : Array (Option Value)} {k1 k2 t1 : Nat} {data : Array UInt8} {ks : List Int} {i : Int} (hks : KBw.bInts data = ks) (hlen : ks.length ≤ 1000) (h0 : 0 ≤ i) (h1 : i ≤ ks.length) :
    GivesW w 246 6 wa da (wireD w k1 k2 data t1) sl i [] (fun v j => v = .none ∧ skipB ks i [32] = true ∧ j = i + 1 ∧ i + 1 ≤ ks.length) (fun C => C = 71 ∧ skipB ks i [32] = false) :=
  (space_c w hks hlen h0 h1).mono (fun v j ⟨a, b, c⟩ => ⟨a, b, c, by have := skipB_le h0 h1 b; simpa using this⟩) (fun C h => h)
theorem asc_of {ks os : List Int} (ha : ∀ x ∈ ks, 0 ≤ x ∧ x ≤ 127) (h : ∀ x ∈ os, x ∈ ks) : ∀ x ∈ os, 0 ≤ x ∧ x ≤ 127 := fun x hx => ha x (h x hx)
end
section
open PySem PySem.W PyProof.Rows PySem.Calls
theorem word_here_c (w : World) {wa da : Addr} {sl : Array (Option Value)} {k1 k2 t1 : Nat} {data : Array UInt8} {ks : List Int} {i : Int} (hks : KBw.bInts data = ks) (hlen : ks.length ≤ 1000) (h0 : 0 ≤ i) (h1 : i ≤ ks.length) (ha : ∀ x ∈ ks, 0 ≤ x ∧ x ≤ 127) :
    GivesWB w 119 19 wa da (wireD w k1 k2 data t1) sl i [] (fun v j => ∃ os, wordP ks i = some (os, j) ∧ ∃ t, v = .str (txt os) t) (fun C => C = 71 ∧ wordP ks i = none) := by
  k_with_none
  k_with "compareOp NotIn int bytes" => (k_here; (with_reducible show wpAny _ _ (compareOp CmpOp.NotIn (Value.int _ _) (Value.bytes _ _)) _ _ _); refine notin_bytes ?_ ?_ rfl ?_; (first | assumption | omega); (first | assumption | omega))
  k_with "compareOp In int bytes" => (k_here; (with_reducible show wpAny _ _ (compareOp CmpOp.In (Value.int _ _) (Value.bytes _ _)) _ _ _); refine in_bytes ?_ ?_ rfl ?_; (first | assumption | omega); (first | assumption | omega))
  k_with "call ref" => (k_here; (with_reducible show wpAny _ _ (call (Value.ref 71) _) _ _ _); k_dflt (refine' excCall_c _ (fault71 _) (by k_asm) (by k_asm) (by k_asm) (by k_asm) (by k_asm) (by first | exact rfl | assumption) (by ktr_room) (by ktr_units) ?_; k_whole; intro e9 t9 d9 h9 tk9 F9 N9 n1 n2 n3; (try k_sweep); (try dsimp only); (try k_fold)))
  k_with "call ref" => (k_here; (with_reducible show wpAny _ _ (call (Value.ref 83) _) _ _ _); k_dflt (refine' excCall_c _ (fault83 _) (by k_asm) (by k_asm) (by k_asm) (by k_asm) (by k_asm) (by first | exact rfl | assumption) (by ktr_room) (by ktr_units) ?_; k_whole; intro e9 t9 d9 h9 tk9 F9 N9 n1 n2 n3; (try k_sweep); (try dsimp only); (try k_fold)))
  k_with "exec Raise some none" => (k_here; refine raise_any rfl ?_)
  k_with "RaiseEnd" => (k_here; refine' raiseEnd_K (by k_asm) (by k_asm) (by k_asm) (by first | exact fault71 _ | exact fault83 _) ?_)
  k_with "leaving ref" => (k_here; k_dflt (first | (refine' leave_raiseL (by k_asm) (by k_asm) (by k_asm) (by assumption) (by assumption) (by assumption) ?_; intro h9 S9 U9) | (refine' leave_onS (by assumption) (by assumption) (by assumption) (by assumption) ?_; intro h9 S9 S9' U9)))
  k_with "callWith ref" => (k_here; (with_reducible show wpAny _ _ (callWith _ (Value.ref _) _ (backTo _ (starEach [] _)) []) _ _ _); k_dflt (refine' callWith_K0 (Frag.In.keeps (by k_asm) (Fr.keep (by k_asm))) (by k_is) ?_; k_whole))
  k_with "wpN" => (k_here; (with_reducible show wpN _ _ (_) _ _ _); k_dflt (refine wpN_of ?_; (try k_fold)))
  k_with "wpN" => (k_here; (with_reducible show wpN _ _ (execs (_ :: _) _) _ _ _); k_dflt (refine N_execs_cons ?_))
  k_with "wpN" => (k_here; (with_reducible show wpN _ _ (execs [] _) _ _ _); k_dflt (refine N_execs_nil ?_; (try dsimp only)))
  k_with "wpN" => (k_here; (with_reducible show wpN _ _ (exec (Stmt.Return (some _) _) _) _ _ _); k_dflt (refine N_Return ?_))
  k_with "wpN" => (k_here; (with_reducible show wpN _ _ (eval (Expr.Call (Expr.Attribute _ _ _) _ _ _) _) _ _ _); k_dflt (refine' N_MethodCall ?_; (try k_fold)))
  k_with "wpN" => (k_here; (with_reducible show wpN _ _ (eval (Expr.Call (Expr.Name _ _) _ _ _) _) _ _ _); k_dflt (refine' N_Call ?_; (try k_fold)))
  k_with "wpN" => (k_here; (with_reducible show wpN _ _ (callWith _ (Value.ref _) _ (backTo _ (starEach [] _)) []) _ _ _); k_dflt (refine' callWith_K0N (Frag.In.keeps (by k_asm) (Fr.keep (by k_asm))) (by k_is) ?_; k_whole; (try dsimp only)))
  k_with "wpN" => (k_here; (with_reducible show wpN _ _ (callWith _ (Value.ref _) _ (backTo _ (starEach [_] _)) []) _ _ _); k_dflt (refine' callWith_arg1N (by k_asm) (by k_is) ?_; k_whole; refine fold_N ?_; intro qk ek; (try dsimp only)))
  k_with "wpN" => (k_here; (with_reducible show wpN _ _ (exec (Stmt.Try _ (_ :: _) _ [] _) _) _ _ _); k_dflt (refine N_Try ?_))
  k_with "call ref" => (k_here; (with_reducible show wpAny _ _ (call (Value.ref 246) _) _ _ _); k_dflt (refine' GivesW.use2 (D := wireD w _ _ _ _) (by k_asm) (by k_asm) (by k_asm) (by k_asm) (by k_asm) (by first | exact rfl | assumption) (by k_mem) (by (intro o9; k_upd)) (by ktr_room) (by ktr_units) (space_x _ (by assumption) (by first | assumption | omega) (by first | assumption | omega) (by first | assumption | omega)) ?_ ?_; intro v9 j9 t9 h9 tk9 r9 F9 N9; obtain ⟨e9, b9, e9', q9⟩ := r9; subst e9; subst e9'; (try dsimp only at N9); (try k_sweep); (try dsimp only); (try k_fold); rotate_left; intro C9 e9 t9 vs9 o9 g9 h9 tk9 x9 G9 S9 U9; obtain ⟨e9', b9⟩ := x9; subst e9'; (try dsimp only at S9); (try dsimp only); rotate_right))
  k_with "wpN" => (k_here; (with_reducible show wpN _ _ (call (Value.ref 344) _) _ _ _); k_dflt (refine' GivesWN.use2 (D := wireD w _ _ _ _) (by k_asm) (by k_asm) (by k_asm) (by k_asm) (by k_asm) (by first | exact rfl | assumption) (by k_mem) (by (intro o9; k_upd)) (by ktr_room) (by ktr_units) (astring_c _ (by assumption) (by first | assumption | omega) (by first | assumption | omega) (by first | assumption | omega)) ?_ ?_; intro v9 j9 t9 h9 tk9 r9 F9 N9; obtain ⟨os9, e9, b9, u9, e9', e9''⟩ := r9; subst e9'; (have l9 := ast_bnd (by first | assumption | omega) (by first | assumption | omega) e9); (have m9 := asc_of ha (mem_ast e9)); (try dsimp only at N9); (try k_sweep); (try dsimp only); (try k_fold); rotate_left; intro C9 e9 t9 vs9 o9 g9 h9 tk9 x9 G9 S9 U9; obtain ⟨e9', b9⟩ := x9; subst e9'; (try dsimp only at S9); (try dsimp only); rotate_right))
  k_with "call ref" => (k_here; (with_reducible show wpAny _ _ (call (Value.ref 112) _) _ _ _); k_dflt refine' GivesP.use2 (by k_asm) (by k_asm) (by k_asm) (by k_asm) (by k_asm) (by first | exact rfl | assumption) (by ktr_room) (by ktr_units) (ascii_c _ (by assumption) (by first | assumption | omega) (by assumption)) ?_; intro v9 h9 tk9 r9 F9 N9; obtain ⟨u9, e9⟩ := r9; subst e9; (try dsimp only); (try k_fold))
  k_with "noteFrame ref" => (k_here; (rename RaisedS _ _ _ _ _ _ _ _ _ => rsX); k_dflt (refine' look_W (by assumption) (by assumption) (by assumption) ?_; k_whole); intro h' R' U'; (try dsimp only at R' U' ⊢))
  k_with "handleBy ref" => (k_here; (with_reducible show wpAny _ _ (handleBy _ _ (_ :: _)) _ _ _); k_dflt (refine' pass_W (by assumption) (by assumption) (by assumption) (by assumption) (by assumption) (by assumption) (by kts_test) ?_; k_whole); intro h' R' U'; (try dsimp only at R' U' ⊢))
  k_with "handleBy ref" => (k_here; (with_reducible show wpAny _ _ (handleBy _ _ []) _ _ _); k_dflt (refine' on_S (by assumption) (by assumption) ?_; k_whole); intro h' R' U'; (try dsimp only at R' U' ⊢))
  k_with "leaving ref" => (k_here; (rename RaisedH _ _ _ _ _ _ _ _ _ _ => rhX); k_dflt (refine' leave_heldS (by assumption) (by assumption) (by assumption) ?_; k_whole); intro h9 S9 S9' U9; (try dsimp only at S9 S9' U9 ⊢))
  refine givesWB_start (fun _ => dict_ne) ?_
  intro mean mg mb dp un gd cn cs a ccd cl outer A₀ base h₀ L m s Q E rest t2 B F X N T hk XB TB hr hne hdp hun ret exc
  refine wpN_callN ?_
  k_dflt (refine' code_defN ?k1 ?k2 ?k3 ?k4 ?k5 ?kA ?kF ?kK ?k6 ?k7 ?k8 ?k9 ?kB ?_ ?c2 ?c3 ?c4 ?c5; (case kA => exact rfl); (case kF => exact rfl); (case kK => assumption); (case k1 => k_asm); (case k2 => k_asm); (case k3 => k_asm); (case k4 => k_asm); (case k5 => k_asm); (case k6 => k_is); (case k7 => k_is); (case k8 => ktr_room); (case k9 => first | exact BindsTo.of_eq rfl | exact binds_K (by k_in) rfl (by k_is) rfl rfl rfl); (case c5 => decide); (case kB => exact locs rfl); (case c2 => exact rfl); (case c3 => exact rfl); (case c4 => exact rfl); k_whole; intro g' L' h' FG' F' N' B' X' T'; (try dsimp only))
  k_steps
  all_goals first
    | exact ret_W ret (by assumption) (by assumption) ⟨_, word_yes (by assumption) (by assumption), _, rfl⟩
    | exact exc_W exc (by assumption) (by assumption) (by assumption) ⟨rfl, word_no1 (by assumption)⟩
    | exact exc_W exc (by assumption) (by assumption) (by assumption) ⟨rfl, word_no2 (by assumption) (by assumption)⟩
end
section
open PySem PySem.W PyProof.Rows PySem.Calls
def isSort (os : List Int) : Bool := [PySem.Str.ofString "priv", PySem.Str.ofString "shared", PySem.Str.ofString "all"].any fun x => x == txt (List.map lowZ os)
def modP (ks : List Int) (i : Int) : Option (Int × Int) :=
  if skipB ks i [32] = true then
    if peekZ ks (i + 1) = 34 then
      match strP ks (i + 1) with
      | none => none
      | some p => match wordP ks p.2 with
        | none => none
        | some q => if isSort q.1 = true then (if skipB ks q.2 [32] = true then numP ks (q.2 + 1) else none) else none
    else numP ks (i + 1)
  else none
theorem mod_n {ks : List Int} {i : Int} (h : skipB ks i [32] = true) (h1 : peekZ ks (i + 1) ≠ 34) {r : Option (Int × Int)} (e : numP ks (i + 1) = r) : modP ks i = r := by unfold modP; rw [if_pos h, if_neg h1, e]
theorem mod_0 {ks : List Int} {i : Int} (h : skipB ks i [32] = false) : modP ks i = none := by unfold modP; rw [if_neg (by rw [h]; exact Bool.false_ne_true)]
theorem mod_s0 {ks : List Int} {i : Int} (h : skipB ks i [32] = true) (h1 : peekZ ks (i + 1) = 34) (e : strP ks (i + 1) = none) : modP ks i = none := by unfold modP; rw [if_pos h, if_pos h1, e]
theorem mod_w0 {ks os : List Int} {i j : Int} (h : skipB ks i [32] = true) (h1 : peekZ ks (i + 1) = 34) (e : strP ks (i + 1) = some (os, j)) (e2 : wordP ks j = none) : modP ks i = none := by unfold modP; rw [if_pos h, if_pos h1, e]; dsimp only; rw [e2]
theorem mod_b0 {ks os os2 : List Int} {i j j2 : Int} (h : skipB ks i [32] = true) (h1 : peekZ ks (i + 1) = 34) (e : strP ks (i + 1) = some (os, j)) (e2 : wordP ks j = some (os2, j2)) (b : isSort os2 = false) : modP ks i = none := by unfold modP; rw [if_pos h, if_pos h1, e]; dsimp only; rw [e2]; dsimp only; rw [if_neg (by rw [b]; exact Bool.false_ne_true)]
theorem mod_b1 {ks os os2 : List Int} {i j j2 : Int} (h : skipB ks i [32] = true) (h1 : peekZ ks (i + 1) = 34) (e : strP ks (i + 1) = some (os, j)) (e2 : wordP ks j = some (os2, j2)) (b : isSort os2 = true) (b2 : skipB ks j2 [32] = false) : modP ks i = none := by unfold modP; rw [if_pos h, if_pos h1, e]; dsimp only; rw [e2]; dsimp only; rw [if_pos b, if_neg (by rw [b2]; exact Bool.false_ne_true)]
theorem mod_y {ks os os2 : List Int} {i j j2 : Int} (h : skipB ks i [32] = true) (h1 : peekZ ks (i + 1) = 34) (e : strP ks (i + 1) = some (os, j)) (e2 : wordP ks j = some (os2, j2)) (b : isSort os2 = true) (b2 : skipB ks j2 [32] = true) {r : Option (Int × Int)} (e3 : numP ks (j2 + 1) = r) : modP ks i = r := by unfold modP; rw [if_pos h, if_pos h1, e]; dsimp only; rw [e2]; dsimp only; rw [if_pos b, if_pos b2, e3]
theorem number_x (w : World) {wa da : Addr} {sl : Array (Option Value)} {k1 k2 t1 : Nat} {data : Array UInt8} {ks : List Int} {i : Int} (hks : KBw.bInts data = ks) (hlen : ks.length ≤ 1000) (h0 : 0 ≤ i) (h1 : i ≤ ks.length) :
    GivesW w 309 9 wa da (wireD w k1 k2 data t1) sl i [] (fun v j => ∃ n, numP ks i = some (n, j) ∧ ∃ t, v = .int n t) (fun C => C = 71 ∧ numP ks i = none) :=
  (number_c w hks hlen h0 h1).mono (fun v j ⟨⟨t, a⟩, b, c, d⟩ => ⟨_, by unfold numP; rw [if_pos ⟨c, d⟩, b], t, a⟩) (fun C ⟨a, b⟩ => ⟨a, by unfold numP; rw [if_neg (by omega)]⟩)
theorem word_x (w : World) {wa da : Addr} {sl : Array (Option Value)} {k1 k2 t1 : Nat} {data : Array UInt8} {ks : List Int} {i : Int} (hks : KBw.bInts data = ks) (hlen : ks.length ≤ 1000) (h0 : 0 ≤ i) (h1 : i ≤ ks.length) (ha : ∀ x ∈ ks, 0 ≤ x ∧ x ≤ 127) :
    GivesWB w 119 19 wa da (wireD w k1 k2 data t1) sl i [] (fun v j => ∃ os, wordP ks i = some (os, j) ∧ ∃ t, v = .str (txt os) t) (fun C => C = 71 ∧ wordP ks i = none) := word_here_c w hks hlen h0 h1 ha
end
section
open PySem PySem.W PyProof.Rows PySem.Calls
theorem modseq_c (w : World) {wa da : Addr} {sl : Array (Option Value)} {k1 k2 t1 : Nat} {data : Array UInt8} {ks : List Int} {i : Int} (hks : KBw.bInts data = ks) (hlen : ks.length ≤ 1000) (h0 : 0 ≤ i) (h1 : i ≤ ks.length) (ha : ∀ x ∈ ks, 0 ≤ x ∧ x ≤ 127) :
    GivesWB w 126 21 wa da (wireD w k1 k2 data t1) sl i [] (fun v j => ∃ n, modP ks i = some (n, j) ∧ ∃ t, v = .int n t) (fun C => (C = 71 ∨ (C = 83 ∧ skipB ks i [32] = true)) ∧ modP ks i = none) := by
  k_with_none
  k_with "compareOp NotIn int bytes" => (k_here; (with_reducible show wpAny _ _ (compareOp CmpOp.NotIn (Value.int _ _) (Value.bytes _ _)) _ _ _); refine notin_bytes ?_ ?_ rfl ?_; (first | assumption | omega); (first | assumption | omega))
  k_with "compareOp In int bytes" => (k_here; (with_reducible show wpAny _ _ (compareOp CmpOp.In (Value.int _ _) (Value.bytes _ _)) _ _ _); refine in_bytes ?_ ?_ rfl ?_; (first | assumption | omega); (first | assumption | omega))
  k_with "call ref" => (k_here; (with_reducible show wpAny _ _ (call (Value.ref 71) _) _ _ _); k_dflt (refine' excCall_c _ (fault71 _) (by k_asm) (by k_asm) (by k_asm) (by k_asm) (by k_asm) (by first | exact rfl | assumption) (by ktr_room) (by ktr_units) ?_; k_whole; intro e9 t9 d9 h9 tk9 F9 N9 n1 n2 n3; (try k_sweep); (try dsimp only); (try k_fold)))
  k_with "call ref" => (k_here; (with_reducible show wpAny _ _ (call (Value.ref 83) _) _ _ _); k_dflt (refine' excCall_c _ (fault83 _) (by k_asm) (by k_asm) (by k_asm) (by k_asm) (by k_asm) (by first | exact rfl | assumption) (by ktr_room) (by ktr_units) ?_; k_whole; intro e9 t9 d9 h9 tk9 F9 N9 n1 n2 n3; (try k_sweep); (try dsimp only); (try k_fold)))
  k_with "exec Raise some none" => (k_here; refine raise_any rfl ?_)
  k_with "RaiseEnd" => (k_here; refine' raiseEnd_K (by k_asm) (by k_asm) (by k_asm) (by first | exact fault71 _ | exact fault83 _) ?_)
  k_with "leaving ref" => (k_here; k_dflt (first | (refine' leave_raiseL (by k_asm) (by k_asm) (by k_asm) (by assumption) (by assumption) (by assumption) ?_; intro h9 S9 U9) | (refine' leave_onS (by assumption) (by assumption) (by assumption) (by assumption) ?_; intro h9 S9 S9' U9)))
  k_with "callWith ref" => (k_here; (with_reducible show wpAny _ _ (callWith _ (Value.ref _) _ (backTo _ (starEach [] _)) []) _ _ _); k_dflt (refine' callWith_K0 (Frag.In.keeps (by k_asm) (Fr.keep (by k_asm))) (by k_is) ?_; k_whole))
  k_with "wpN" => (k_here; (with_reducible show wpN _ _ (_) _ _ _); k_dflt (refine wpN_of ?_; (try k_fold)))
  k_with "wpN" => (k_here; (with_reducible show wpN _ _ (execs (_ :: _) _) _ _ _); k_dflt (refine N_execs_cons ?_))
  k_with "wpN" => (k_here; (with_reducible show wpN _ _ (execs [] _) _ _ _); k_dflt (refine N_execs_nil ?_; (try dsimp only)))
  k_with "wpN" => (k_here; (with_reducible show wpN _ _ (exec (Stmt.If _ _ _ _) _) _ _ _); k_dflt (refine N_If ?_; (try k_fold)))
  k_with "wpN" => (k_here; (with_reducible show wpN _ _ (exec (Stmt.Expr (Expr.Call (Expr.Attribute _ (PySem.Str.ofString "string") _) _ _ _) _) _) _ _ _); k_dflt (refine' N_Expr (N_MethodCall ?_); (try k_fold)))
  k_with "wpN" => (k_here; (with_reducible show wpN _ _ (exec (Stmt.Assign [Expr.Name _ _] (Expr.Call (Expr.Name (PySem.Str.ofString "word_here") _) _ _ _) _) _) _ _ _); k_dflt (refine' N_Assign_Name (N_Call ?_); (try k_fold)))
  k_with "wpN" => (k_here; (with_reducible show wpN _ _ (callWith _ (Value.ref _) _ (backTo _ (starEach [] _)) []) _ _ _); k_dflt (refine' callWith_K0N (Frag.In.keeps (by k_asm) (Fr.keep (by k_asm))) (by k_is) ?_; k_whole; (try dsimp only)))
  k_with "wpN" => (k_here; (with_reducible show wpN _ _ (callWith _ (Value.ref _) _ (backTo _ (starEach (_ :: _) _)) []) _ _ _); k_dflt (refine' callWith_KN (by k_asm) (by k_is) ?_; k_whole; (try k_fold)))
  k_with "call ref" => (k_here; (with_reducible show wpAny _ _ (call (Value.ref 225) _) _ _ _); k_dflt (refine' GivesW.use2 (D := wireD w _ _ _ _) (by k_asm) (by k_asm) (by k_asm) (by k_asm) (by k_asm) (by first | exact rfl | assumption) (by k_mem) (by (intro o9; k_upd)) (by ktr_room) (by ktr_units) (peek_x _ (by assumption) (by first | assumption | omega) (by first | assumption | omega) (by first | assumption | omega)) ?_ (by (intro _ _ _ _ _ _ _ _ x9; exact False.elim x9)); k_whole; intro v9 j9 t9 h9 tk9 r9 F9 N9; obtain ⟨⟨u9, e9⟩, e9', q9, q9', q9''⟩ := r9; subst e9; subst e9'; (try dsimp only at N9); (try k_sweep); (try dsimp only); (try k_fold)))
  k_with "wpN" => (k_here; (with_reducible show wpN _ _ (call (Value.ref 330) _) _ _ _); k_dflt (refine' GivesWN.use2 (D := wireD w _ _ _ _) (by k_asm) (by k_asm) (by k_asm) (by k_asm) (by k_asm) (by first | exact rfl | assumption) (by k_mem) (by (intro o9; k_upd)) (by ktr_room) (by ktr_units) (string_c _ (by assumption) (by first | assumption | omega) (by first | assumption | omega) (by first | assumption | omega)) ?_ ?_; intro v9 j9 t9 h9 tk9 r9 F9 N9; obtain ⟨os9, e9, b9, u9, e9', e9''⟩ := r9; subst e9'; (have l9 := str_bnd (by first | assumption | omega) (by first | assumption | omega) e9); (try dsimp only at N9); (try k_sweep); (try dsimp only); (try k_fold); rotate_left; intro C9 e9 t9 vs9 o9 g9 h9 tk9 x9 G9 S9 U9; obtain ⟨e9', b9⟩ := x9; subst e9'; (try dsimp only at S9); (try dsimp only); rotate_right))
  k_with "call ref" => (k_here; (with_reducible show wpAny _ _ (call (Value.ref 246) _) _ _ _); k_dflt (refine' GivesW.use2 (D := wireD w _ _ _ _) (by k_asm) (by k_asm) (by k_asm) (by k_asm) (by k_asm) (by first | exact rfl | assumption) (by k_mem) (by (intro o9; k_upd)) (by ktr_room) (by ktr_units) (space_x _ (by assumption) (by first | assumption | omega) (by first | assumption | omega) (by first | assumption | omega)) ?_ ?_; intro v9 j9 t9 h9 tk9 r9 F9 N9; obtain ⟨e9, b9, e9', q9⟩ := r9; subst e9; subst e9'; (try dsimp only at N9); (try k_sweep); (try dsimp only); (try k_fold); rotate_left; intro C9 e9 t9 vs9 o9 g9 h9 tk9 x9 G9 S9 U9; obtain ⟨e9', b9⟩ := x9; subst e9'; (try dsimp only at S9); (try dsimp only); rotate_right))
  k_with "call ref" => (k_here; (with_reducible show wpAny _ _ (call (Value.ref 102) _) _ _ _); k_dflt refine' GivesP.use2 (by k_asm) (by k_asm) (by k_asm) (by k_asm) (by k_asm) (by first | exact rfl | assumption) (by ktr_room) (by ktr_units) (lower_text_c _ (by first | assumption | omega) (by assumption)) ?_; intro v9 h9 tk9 r9 F9 N9; obtain ⟨u9, e9⟩ := r9; subst e9; (try dsimp only); (try k_fold))
  k_with "call ref" => (k_here; (with_reducible show wpAny _ _ (call (Value.ref 309) _) _ _ _); k_dflt (refine' GivesW.use2 (D := wireD w _ _ _ _) (by k_asm) (by k_asm) (by k_asm) (by k_asm) (by k_asm) (by first | exact rfl | assumption) (by k_mem) (by (intro o9; k_upd)) (by ktr_room) (by ktr_units) (number_x _ (by assumption) (by first | assumption | omega) (by first | assumption | omega) (by first | assumption | omega)) ?_ ?_; intro v9 j9 t9 h9 tk9 r9 F9 N9; obtain ⟨n9, e9, u9, e9'⟩ := r9; subst e9'; (try dsimp only at N9); (try k_sweep); (try dsimp only); (try k_fold); rotate_left; intro C9 e9 t9 vs9 o9 g9 h9 tk9 x9 G9 S9 U9; obtain ⟨e9', b9⟩ := x9; subst e9'; (try dsimp only at S9); (try dsimp only); rotate_right))
  k_with "wpN" => (k_here; (with_reducible show wpN _ _ (call (Value.ref 119) _) _ _ _); k_dflt (refine' GivesWB.use2 (D := wireD w _ _ _ _) (by k_asm) (by k_asm) (by k_asm) (by k_asm) (by k_asm) (by first | exact rfl | assumption) (by assumption) (by assumption) (by k_mem) (by (intro o9; k_upd)) (by ktr_room) (by ktr_units) (word_x _ (by assumption) (by first | assumption | omega) (by first | assumption | omega) (by first | assumption | omega) (by assumption)) ?_ ?_; intro v9 j9 t9 h9 tk9 r9 F9 N9; obtain ⟨os9, e9, u9, e9'⟩ := r9; subst e9'; (have l9 := word_bnd (by first | assumption | omega) (by first | assumption | omega) e9); (have m9 := asc_of ha l9.2.2.2); (try dsimp only at N9); (try k_sweep); (try dsimp only); (try k_fold); rotate_left; intro C9 e9 t9 vs9 o9 g9 h9 tk9 x9 G9 S9 U9; obtain ⟨e9', b9⟩ := x9; subst e9'; (try dsimp only at S9); (try dsimp only); rotate_right))
  refine givesWB_start (fun _ => dict_ne) ?_
  intro mean mg mb dp un gd cn cs a ccd cl outer A₀ base h₀ L m s Q E rest t2 B F X N T hk XB TB hr hne hdp hun ret exc
  refine wpN_callN ?_
  k_dflt (refine' code_defN ?k1 ?k2 ?k3 ?k4 ?k5 ?kA ?kF ?kK ?k6 ?k7 ?k8 ?k9 ?kB ?_ ?c2 ?c3 ?c4 ?c5; (case kA => exact rfl); (case kF => exact rfl); (case kK => assumption); (case k1 => k_asm); (case k2 => k_asm); (case k3 => k_asm); (case k4 => k_asm); (case k5 => k_asm); (case k6 => k_is); (case k7 => k_is); (case k8 => ktr_room); (case k9 => first | exact BindsTo.of_eq rfl | exact binds_K (by k_in) rfl (by k_is) rfl rfl rfl); (case c5 => decide); (case kB => exact locs rfl); (case c2 => exact rfl); (case c3 => exact rfl); (case c4 => exact rfl); k_whole; intro g' L' h' FG' F' N' B' X' T'; (try dsimp only))
  k_steps
  all_goals first
    | exact ret_WN ret (by assumption) (by assumption) ⟨_, mod_y (by assumption) (by assumption) (by assumption) (by assumption) (by assumption) (by assumption) (by assumption), _, rfl⟩
    | exact ret_W ret (by assumption) (by assumption) ⟨_, mod_n (by assumption) (by assumption) (by assumption), _, rfl⟩
    | exact exc_WN exc (by assumption) (by assumption) (by assumption) ⟨.inl rfl, mod_y (by assumption) (by assumption) (by assumption) (by assumption) (by assumption) (by assumption) (by assumption)⟩
    | exact exc_WN exc (by assumption) (by assumption) (by assumption) ⟨.inl rfl, mod_b1 (by assumption) (by assumption) (by assumption) (by assumption) (by assumption) (by assumption)⟩
    | exact exc_WN exc (by assumption) (by assumption) (by assumption) ⟨.inr ⟨rfl, by assumption⟩, mod_b0 (by assumption) (by assumption) (by assumption) (by assumption) (by assumption)⟩
    | exact exc_W exc (by assumption) (by assumption) (by assumption) ⟨.inl rfl, mod_w0 (by assumption) (by assumption) (by assumption) (by assumption)⟩
    | exact exc_W exc (by assumption) (by assumption) (by assumption) ⟨.inl rfl, mod_s0 (by assumption) (by assumption) (by assumption)⟩
    | exact exc_W exc (by assumption) (by assumption) (by assumption) ⟨.inl rfl, mod_n (by assumption) (by assumption) (by assumption)⟩
    | exact exc_W exc (by assumption) (by assumption) (by assumption) ⟨.inl rfl, mod_0 (by assumption)⟩
end
section
open PySem PySem.W PyProof.Rows PySem.Calls
theorem upd_same {da : Addr} : ∀ (l₁ l₂ r₁ r₂ : List (Addr × Obj)) {o : Obj}, l₁ ++ (da, o) :: r₁ = l₂ ++ (da, o) :: r₂ → (∀ p ∈ l₁, p.1 ≠ da) → (∀ p ∈ l₂, p.1 ≠ da) → l₁ = l₂ ∧ r₁ = r₂ := by
  intro l₁
  induction l₁ with
  | nil =>
    intro l₂ r₁ r₂ o e _ h2
    cases l₂ with
    | nil => exact ⟨rfl, by simpa using e⟩
    | cons x l₂ =>
      simp only [List.nil_append, List.cons_append, List.cons.injEq] at e
      exact absurd (by rw [← e.1]) (h2 x (List.mem_cons_self ..))
  | cons x l₁ ih =>
    intro l₂ r₁ r₂ o e h1 h2
    cases l₂ with
    | nil =>
      simp only [List.nil_append, List.cons_append, List.cons.injEq] at e
      exact absurd (by rw [e.1]) (h1 x (List.mem_cons_self ..))
    | cons y l₂ =>
      simp only [List.cons_append, List.cons.injEq] at e
      obtain ⟨a1, a2⟩ := ih l₂ r₁ r₂ e.2 (fun p hp => h1 p (List.mem_cons_of_mem _ hp)) fun p hp => h2 p (List.mem_cons_of_mem _ hp)
      exact ⟨by rw [e.1, a1], a2⟩
/-- a def of the law's that takes from the list of cells -/
def GivesC (w : World) (f : Addr) (dk : Nat) (ca : Addr) (its : List Value) (n : Nat) (xs : List Value) (R : Value → List Value → Nat → Prop) : Prop :=
  ∀ (mean : ExcName → Option Value) (mg mb : PySem.Str → Option Value) (dp un : Nat) (gd : Option (List Code)) (cn : PySem.Str) (cs : Scope) (a : Addr) (ccd : Value) (cl : List (PySem.Str × Addr)) (outer : List Env) (A₀ : Around) (base h₀ : Heap) (L : Addr) (m : PySem.Str → Option Value) (s : Shared) (Q E : Value → Shared → Prop) (news : List (Addr × Obj)) (upd : Obj → List (Addr × Obj)),
    Below A₀ base outer h₀ → Fr h₀ L s.heap m → (hd.heap_1 w.params).In h₀ → News h₀ L s.heap news → Top viewQ (looseW viewQ [PySem.Str.ofString "PostError"]) mean mg mb h₀ → cs.kind = .function →
    (∀ o', Upd ca (listOf its.toArray n) o' news (upd o')) →
    dp + dk < recursionLimit → un + 8 * dk < cLine →
    (∀ v its' n' h' tk', R v its' n' → Fr h₀ L h' m → News h₀ L h' (upd (listOf its'.toArray n')) → Q v { s with heap := h', toks := tk' }) →
    wpAny (model PySem.Challenge.rw_or0059_01.row.prog w) (ktrTop dp un gd cn cs L a ccd cl outer) (call (.ref f) (.ref ca :: xs)) Q E s
theorem givesC_start {w : World} {f : Addr} {dk : Nat} {ca : Addr} {its : List Value} {n : Nat} {xs : List Value} {R : Value → List Value → Nat → Prop}
    (h : ∀ (mean : ExcName → Option Value) (mg mb : PySem.Str → Option Value) (dp un : Nat) (gd : Option (List Code)) (cn : PySem.Str) (cs : Scope) (a : Addr) (ccd : Value) (cl : List (PySem.Str × Addr)) (outer : List Env) (A₀ : Around) (base h₀ : Heap) (L : Addr) (m : PySem.Str → Option Value) (s : Shared) (Q E : Value → Shared → Prop) (rest : List (Addr × Obj)),
      Below A₀ base outer h₀ → Fr h₀ L s.heap m → (hd.heap_1 w.params).In h₀ → News h₀ L s.heap ((ca, listOf its.toArray n) :: rest) → Top viewQ (looseW viewQ [PySem.Str.ofString "PostError"]) mean mg mb h₀ → cs.kind = .function →
      (∀ p ∈ rest, p.1 ≠ ca) →
      dp + dk < recursionLimit → un + 8 * dk < cLine →
      (∀ v its' n' h' tk', R v its' n' → Fr h₀ L h' m → News h₀ L h' ((ca, listOf its'.toArray n') :: rest) → Q v { s with heap := h', toks := tk' }) →
      wpAny (model PySem.Challenge.rw_or0059_01.row.prog w) (ktrTop dp un gd cn cs L a ccd cl outer) (call (.ref f) (.ref ca :: xs)) Q E s) : GivesC w f dk ca its n xs R := by
  intro mean mg mb dp un gd cn cs a ccd cl outer A₀ base h₀ L m s Q E news upd B F X N T hk U hdp hun ret
  obtain ⟨pre, post, e1, e2, n1, n2⟩ := (U (listOf its.toArray n)).split
  have key : ∀ o', ∀ p ∈ upd o', p ∈ (ca, o') :: (pre ++ post) := by
    intro o' p hp
    obtain ⟨pre', post', f1, f2, m1, m2⟩ := (U o').split
    obtain ⟨rfl, rfl⟩ := upd_same _ _ _ _ (e1.symm.trans f1) n1 m1
    rw [f2] at hp
    simp only [List.mem_append, List.mem_cons] at hp ⊢
    rcases hp with hp | hp | hp
    · exact .inr (.inl hp)
    · exact .inl hp
    · exact .inr (.inr hp)
  refine h mean mg mb dp un gd cn cs a ccd cl outer A₀ base h₀ L m s Q E (pre ++ post) B F X ?_ T hk ?_ hdp hun ?_
  · intro p hp
    rcases List.mem_cons.mp hp with rfl | hp
    · exact N _ (by rw [e1]; simp)
    · exact N _ (by rw [e1]; simp only [List.mem_append, List.mem_cons] at hp ⊢; rcases hp with hp | hp; exact .inl hp; exact .inr (.inr hp))
  · intro p hp
    rcases List.mem_append.mp hp with hp | hp
    · exact n1 p hp
    · exact n2 p hp
  · intro v its' n' h' tk' hR F' N'
    exact ret v its' n' h' tk' hR F' fun p hp => N' p (key _ p hp)
theorem GivesC.use {w : World} {f : Addr} {dk : Nat} {ca : Addr} {its : List Value} {n : Nat} {xs : List Value} {R : Value → List Value → Nat → Prop} (G : GivesC w f dk ca its n xs R)
    {mean : ExcName → Option Value} {mg mb : PySem.Str → Option Value} {dp un : Nat} {gd : Option (List Code)} {cn : PySem.Str} {cs : Scope} {a : Addr} {ccd : Value} {cl : List (PySem.Str × Addr)} {outer : List Env} {A₀ : Around} {base h₀ : Heap} {L : Addr} {m : PySem.Str → Option Value} {s : Shared} {Q E : Value → Shared → Prop} {news : List (Addr × Obj)} {upd : Obj → List (Addr × Obj)}
    (B : Below A₀ base outer h₀) (F : Fr h₀ L s.heap m) (X : (hd.heap_1 w.params).In h₀) (N : News h₀ L s.heap news) (T : Top viewQ (looseW viewQ [PySem.Str.ofString "PostError"]) mean mg mb h₀) (hk : cs.kind = .function)
    (U : ∀ o', Upd ca (listOf its.toArray n) o' news (upd o'))
    (hdp : dp + dk < recursionLimit) (hun : un + 8 * dk < cLine)
    (ret : ∀ v its' n' h' tk', R v its' n' → Fr h₀ L h' m → News h₀ L h' (upd (listOf its'.toArray n')) → Q v { s with heap := h', toks := tk' }) :
    wpAny (model PySem.Challenge.rw_or0059_01.row.prog w) (ktrTop dp un gd cn cs L a ccd cl outer) (call (.ref f) (.ref ca :: xs)) Q E s :=
  G mean mg mb dp un gd cn cs a ccd cl outer A₀ base h₀ L m s Q E news upd B F X N T hk U hdp hun ret
theorem GivesC.use2 {w : World} {f : Addr} {dk : Nat} {ca : Addr} {its : List Value} {n : Nat} {xs : List Value} {R : Value → List Value → Nat → Prop}
    {mean : ExcName → Option Value} {mg mb : PySem.Str → Option Value} {dp un : Nat} {gd : Option (List Code)} {cn : PySem.Str} {cs : Scope} {a : Addr} {ccd : Value} {cl : List (PySem.Str × Addr)} {outer : List Env} {A₀ : Around} {base h₀ : Heap} {L : Addr} {m : PySem.Str → Option Value} {s : Shared} {Q E : Value → Shared → Prop} {news : List (Addr × Obj)} {upd : Obj → List (Addr × Obj)}
    (B : Below A₀ base outer h₀) (F : Fr h₀ L s.heap m) (X : (hd.heap_1 w.params).In h₀) (N : News h₀ L s.heap news) (T : Top viewQ (looseW viewQ [PySem.Str.ofString "PostError"]) mean mg mb h₀) (hk : cs.kind = .function)
    (U : ∀ o', Upd ca (listOf its.toArray n) o' news (upd o'))
    (hdp : dp + dk < recursionLimit) (hun : un + 8 * dk < cLine) (G : GivesC w f dk ca its n xs R)
    (ret : ∀ v its' n' h' tk', R v its' n' → Fr h₀ L h' m → News h₀ L h' (upd (listOf its'.toArray n')) → Q v { s with heap := h', toks := tk' }) :
    wpAny (model PySem.Challenge.rw_or0059_01.row.prog w) (ktrTop dp un gd cn cs L a ccd cl outer) (call (.ref f) (.ref ca :: xs)) Q E s :=
  G mean mg mb dp un gd cn cs a ccd cl outer A₀ base h₀ L m s Q E news upd B F X N T hk U hdp hun ret
theorem led_list {h₀ h : Heap} {L a : Addr} {us : List Value} {n : Nat} {news : List (Addr × Obj)} (N : News h₀ L h news) (hm : (a, listOf us.toArray n) ∈ news) : h.IsList a us.toArray := ⟨_, (N _ hm).1, rfl, n, rfl⟩
theorem fmod_bnd (c : Int) {mv : Int} (hm : 0 < mv) : 0 ≤ c.fmod mv ∧ c.fmod mv < mv := by
  rw [Int.fmod_eq_emod_of_nonneg _ (by omega)]
  exact ⟨Int.emod_nonneg _ (by omega), Int.emod_lt_of_pos _ hm⟩
theorem pop0_K {prog : Program} {w : World} {A : Around} {E : Value → Shared → Prop} {s : Shared} {h₀ : Heap} {L D : Addr} {m : PySem.Str → Option Value} {news : List (Addr × Obj)} {upd : Obj → List (Addr × Obj)} {vs : List Value} {ns : List Int} {n : Nat} {u : Tok} {Q : Value → Shared → Prop}
    (F : Fr h₀ L s.heap m) (N : News h₀ L s.heap news) (U : ∀ o', Upd D (listOf vs.toArray n) o' news (upd o')) (hi : IntsAre vs ns) (hne : ns ≠ []) (hl : ns.length ≤ 40)
    (h : ∀ c t vs' ns' h', IntsAre vs' ns' → ns'.length ≤ 40 → Fr h₀ L h' m → News h₀ L h' (upd (listOf vs'.toArray (n + 1))) → Q (.int c t) { s with heap := h' }) : wpAny (model prog w) A (call (.builtin "list.pop") [.ref D, .int 0 u]) Q E s := by
  have hz := hi.length
  cases hi with
  | nil => exact absurd rfl hne
  | cons k t r =>
    rename_i vs ns
    simp only [List.length_cons] at hl hz
    refine kl_popAt (k := 0) (p := []) (q := vs) (y := .int k t) F N rfl ?_ rfl (U _) (by simp only [List.length_cons]; rw [sizeLine_eq]; omega) fun h' F' N' => h k t vs ns h' r (by omega) F' N'
    unfold seqIndex?
    simp
end
section
open PySem PySem.W PyProof.Rows PySem.Calls
theorem next_c (w : World) {ca : Addr} {its : List Value} {n : Nat} {ns : List Int} {mv : Int} {tm : Tok} (hi : IntsAre its ns) (hl : ns.length ≤ 40) (hm : 0 < mv) (hm2 : mv ≤ 100) :
    GivesC w 394 9 ca its n [.int mv tm] (fun v its' n' => (∃ k t, v = .int k t ∧ 0 ≤ k ∧ k < mv) ∧ ∃ ns', IntsAre its' ns' ∧ ns'.length ≤ 40) := by
  k_with_none
  k_with "compareOp NotIn int bytes" => (k_here; (with_reducible show wpAny _ _ (compareOp CmpOp.NotIn (Value.int _ _) (Value.bytes _ _)) _ _ _); refine notin_bytes ?_ ?_ rfl ?_; (first | assumption | omega); (first | assumption | omega))
  k_with "compareOp In int bytes" => (k_here; (with_reducible show wpAny _ _ (compareOp CmpOp.In (Value.int _ _) (Value.bytes _ _)) _ _ _); refine in_bytes ?_ ?_ rfl ?_; (first | assumption | omega); (first | assumption | omega))
  k_with "compareOp NotEq ref ref" => (k_here; (with_reducible show wpAny _ _ (compareOp CmpOp.NotEq (Value.ref _) (Value.ref _)) _ _ _); k_dflt (refine' ne_intsK (led_list (by k_asm) (by k_mem)) (by assumption) (led_list (us := []) (by k_asm) (by k_mem)) IntsAre.nil (by ktr_units) ?_; k_whole))
  k_with "call builtin:list.pop" => (k_here; (with_reducible show wpAny _ _ (call (Value.builtin _) [Value.ref _, Value.int 0 _]) _ _ _); k_dflt (refine' pop0_K (by k_asm) (by k_asm) (by (intro o9; k_upd)) (by assumption) (by exact of_decide_eq_false (by assumption)) (by assumption) ?_; k_whole; intro c9 t9 vs9 ns9 h9 i9 l9 F9 N9; (try k_sweep); (try dsimp only)))
  refine givesC_start ?_
  intro mean mg mb dp un gd cn cs a ccd cl outer A₀ base h₀ L m s Q E rest B F X N T hk hr hdp hun ret
  refine wpAny_call ?_
  k_dflt ktr_enter
  k_steps
  · exact ret _ its n _ _ ⟨⟨0, _, rfl, Int.le_refl 0, hm⟩, ns, hi, hl⟩ (by assumption) (by rename News _ _ _ _ => N9; exact fun p hp => N9 p (List.mem_cons_of_mem _ hp))
  · exact ret _ _ _ _ _ ⟨⟨_, _, rfl, fmod_bnd _ hm⟩, _, by assumption, by assumption⟩ (by assumption) (by rename News _ _ _ _ => N9; exact fun p hp => N9 p (List.mem_cons_of_mem _ hp))
end
section
open PySem PySem.W PyProof.Rows PySem.Calls
theorem led_tup {h₀ h : Heap} {L a : Addr} {us : List Value} {n : Nat} {news : List (Addr × Obj)} (N : News h₀ L h news) (hm : (a, ({ cls := .type "tuple", data := .seq us.toArray n } : Obj)) ∈ news) : IsTup h a us.toArray := ⟨_, (N _ hm).1, rfl, n, rfl⟩
inductive BysAre : List Value → List (List Int) → Prop
  | nil : BysAre [] []
  | cons {b : Array UInt8} {t : Tok} {os : List Int} {vs : List Value} {ls : List (List Int)} (h : KBw.bInts b = os) (r : BysAre vs ls) : BysAre (.bytes b t :: vs) (os :: ls)
theorem BysAre.at {vs : List Value} {ls : List (List Int)} (h : BysAre vs ls) : ∀ {k : Nat} {x : Value}, vs[k]? = some x → ∃ b t, x = .bytes b t ∧ KBw.bInts b = ls.getD k [] := by
  induction h with
  | nil => intro k x e; simp at e
  | cons h r ih =>
    intro k x e
    cases k with
    | zero => simp only [List.getElem?_cons_zero, Option.some.injEq] at e; exact ⟨_, _, e.symm, h⟩
    | succ k => simp only [List.getElem?_cons_succ] at e; obtain ⟨b, t, e1, e2⟩ := ih e; exact ⟨b, t, e1, by simpa using e2⟩
theorem BysAre.length {vs : List Value} {ls : List (List Int)} (h : BysAre vs ls) : vs.length = ls.length := by
  induction h with
  | nil => rfl
  | cons h r ih => simp [ih]
theorem tab_at {prog : Program} {w : World} {A : Around} {E : Value → Shared → Prop} {s : Shared} {value slice : PySem.Expr} {t : Addr} {vs : List Value} {ls : List (List Int)} {k : Int} {u : Tok} {Q : Value → Shared → Prop} (ht : IsTup s.heap t vs.toArray) (hb : BysAre vs ls)
    (h0 : 0 ≤ k) (h1 : k < ls.length) (h2 : ls.length ≤ 1000) (h : ∀ b u', KBw.bInts b = ls.getD k.toNat [] → Q (.bytes b u') s)
    (hs : subscripted slice false (.ref t) (.int k u) = operate [.ref t, .int k u] (getItem (.ref t) (.int k u))) : wpAny (model prog w) A (subscriptTail value slice (.ref t) (.int k u)) Q E s := by
  have hlen := hb.length
  have hk : k.toNat < vs.length := by omega
  have hx : vs[k.toNat]? = some vs[k.toNat] := List.getElem?_eq_getElem hk
  obtain ⟨b, u', e1, e2⟩ := hb.at hx
  refine item_tupleT ht (by omega) (by omega) (j := k.toNat) ?_ hx ?_ hs
  · exact seqIndex_of h0 (by omega)
  · rw [e1]
    exact h b u' e2
def gapTab : List (List Int) := [[32], [32], [32], [32], [], [32, 32]]
theorem gap_in {k : Int} (h0 : 0 ≤ k) (h1 : k < 6) : gapTab.getD k.toNat [] = [32] ∨ gapTab.getD k.toNat [] = [] ∨ gapTab.getD k.toNat [] = [32, 32] := by
  have : k = 0 ∨ k = 1 ∨ k = 2 ∨ k = 3 ∨ k = 4 ∨ k = 5 := by omega
  rcases this with rfl | rfl | rfl | rfl | rfl | rfl <;> simp [gapTab]
end
section
open PySem PySem.W PyProof.Rows PySem.Calls
theorem gap_c (w : World) {ca : Addr} {its : List Value} {n : Nat} {ns : List Int} (hi : IntsAre its ns) (hl : ns.length ≤ 40) :
    GivesC w 401 11 ca its n [] (fun v its' n' => (∃ b t, v = .bytes b t ∧ (KBw.bInts b = [32] ∨ KBw.bInts b = [] ∨ KBw.bInts b = [32, 32])) ∧ ∃ ns', IntsAre its' ns' ∧ ns'.length ≤ 40) := by
  k_with_none
  k_with "compareOp NotIn int bytes" => (k_here; (with_reducible show wpAny _ _ (compareOp CmpOp.NotIn (Value.int _ _) (Value.bytes _ _)) _ _ _); refine notin_bytes ?_ ?_ rfl ?_; (first | assumption | omega); (first | assumption | omega))
  k_with "compareOp In int bytes" => (k_here; (with_reducible show wpAny _ _ (compareOp CmpOp.In (Value.int _ _) (Value.bytes _ _)) _ _ _); refine in_bytes ?_ ?_ rfl ?_; (first | assumption | omega); (first | assumption | omega))
  k_with "call ref" => (k_here; (with_reducible show wpAny _ _ (call (Value.ref 394) _) _ _ _); k_dflt (refine' GivesC.use2 (by k_asm) (by k_asm) (by k_asm) (by k_asm) (by k_asm) (by first | exact rfl | assumption) (by (intro o9; k_upd)) (by ktr_room) (by ktr_units) (next_c _ (by assumption) (by first | assumption | omega) (by decide) (by decide)) ?_; k_whole; intro v9 vs9 n9 h9 tk9 r9 F9 N9; obtain ⟨⟨k9, t9, e9, g9, g9'⟩, ns9, i9, l9⟩ := r9; subst e9; (try dsimp only at N9); (try k_sweep); (try dsimp only); (try k_fold)))
  k_with "subscriptTail" => (k_here; (with_reducible show wpAny _ _ (subscriptTail _ _ (Value.ref _) (Value.int _ _)) _ _ _); k_dflt (refine' tab_at (ls := gapTab) (led_tup (by k_asm) (by k_mem)) (by (repeat (first | exact BysAre.nil | refine BysAre.cons rfl ?_))) (by assumption) (by assumption) (by decide) ?_ (by with_unfolding_all rfl); k_whole; intro b9 u9 hb9; (try dsimp only)))
  refine givesC_start ?_
  intro mean mg mb dp un gd cn cs a ccd cl outer A₀ base h₀ L m s Q E rest B F X N T hk hr hdp hun ret
  refine wpAny_call ?_
  k_dflt ktr_enter
  k_steps
  exact ret _ _ _ _ _ ⟨⟨_, _, rfl, by rename KBw.bInts _ = _ => hb; rw [hb]; exact gap_in (by assumption) (by assumption)⟩, _, by assumption, by assumption⟩ (by assumption) (by rename News _ _ _ _ => N9; exact fun p hp => N9 p (List.mem_cons_of_mem _ hp))
end
section
open PySem PySem.W PyProof.Rows PySem.Calls
section
variable {prog : Program} {w : World} {s : Shared} {K : Frag} {p : Program} {loose : List PySem.Str} {mean : ExcName → Option Value} {mg mb : PySem.Str → Option Value}
  {R : Result → Shared → Prop} {name qual : PySem.Str} {params : Arguments} {body : List Stmt} {scope : Scope} {dV kV doc pm cdv ct oc : Value} {an od : Option Addr} {osl : Array (Option Value)} {f : Addr} {args : Args} {binds : List (PySem.Str × Value)}
theorem code_callerCN (X : K.In s.heap) (T : Top p loose mean mg mb s.heap)
    (ho : K.lookup f = some ⟨oc, od, .func (fnOf name qual params body scope dV kV doc pm an cdv ct), osl⟩) (hcd : codeIn K cdv qual = true)
    (hbind : BindsTo s (fnOf name qual params body scope dV kV doc pm an cdv ct) args binds) (hkind : (binds.all fun y => scope.names.lookup y.1 == some .local || scope.names.lookup y.1 == some .cell) = true)
    (hnd : ((cellsFrom 0 scope.names []).map (·.1)).Nodup)
    (h : ∀ L' h₁ tk cells, Fr s.heap L' h₁ (bindL (envOfC qual scope L' f cdv).kindOf binds fun _ => none) → News s.heap L' h₁ cells →
      CellsAre (bindC (envOfC qual scope L' f cdv).kindOf binds fun _ => none) (cellsFrom (L' + 1) scope.names []) cells → Below callerA s.heap [] s.heap →
      wpN (model prog w) (callerA.deeper (envOfC qual scope L' f cdv)) (execs body (envOfC qual scope L' f cdv))
        (fun fl s' => R (.ok (.ret (match fl with | .ret v => v | _ => .none))) s')
        (fun e s' => wpAny (model prog w) (callerA.deeper (envOfC qual scope L' f cdv)) (leaving (envOfC qual scope L' f cdv) e) (fun _ s'' => R (.error e) s'') (fun e' s'' => R (.error e') s'') s')
        { s with heap := h₁, toks := tk })
    (hco : scope.isCoroutine = false) (hgen : scope.isGenerator = false) (hk : scope.kind = .function) : codeN (model prog w) callerA (.call (.ref f) args) R s := by
  refine codeN_call_function (by decide) (X _ _ ho) rfl hco hgen rfl (codeRec_of X hcd) (hbind _ _ _ _ ?_)
  refine wpAny_newFunctionEnv_cells hk (kindsX hkind _) fun env' he s' x => ?_
  subst he
  refine ⟨T.nolimit.keeps x.toInCall.keep, codeN_func ?_⟩
  obtain ⟨h₁, tk, rfl, _⟩ := x.done
  have hk₁ := x.toInCall.keep
  obtain ⟨cells, NC, Y⟩ := Cl.news (h₀ := s.heap) (Nat.le_refl _) fun n c hm => ⟨x.cell n c (lookup_of_mem_nodup (cellsFrom_names scope.names 0 (s.heap.objs.size + 1) [] [] rfl ▸ hnd) hm), x.above n c hm⟩
  refine h s.heap.objs.size h₁ tk cells ⟨x.toInCall.ns, fun b o e => hk₁ b o e, Nat.le_refl _⟩ (fun p hp => ?_) Y (below_caller s.heap)
  exact NC p hp
end
end
section
open PySem PySem.W PyProof.Rows PySem.Calls PySem.Spec
section
variable {M : Model} {A : Around} {s : Shared}
theorem codeN_loopB {c : Code} {R : Result → Shared → Prop} (hok : okC c = true) (hq : c.quiet = true) (I : Nat → Shared → Prop)
    (turn : ∀ n s, I n s → wpN M (A.under c) (M.den c)
      (fun fin s' => match fin with
        | .done f => R (.ok f) s'
        | .again c' => (c' = c ∧ ∃ m, m < n ∧ I m s') ∨ (c'.quiet = true ∧ codeN M A c' R s')) (fun e s' => R (.error e) s') s)
    (n : Nat) (h : I n s) : codeN M A c R s := by
  induction n using Nat.strongRecOn generalizing s with
  | ind n ih =>
    refine codeN_of_tree hok (wpN_mono (turn n s h) (fun fin s' hf => ?_) fun _ _ h' => h')
    cases fin with
    | done f => exact hf
    | again c' =>
      rcases hf with ⟨rfl, m, hm, hI⟩ | hf
      · exact ⟨hq, ih m hm hI⟩
      · exact hf
end
section
variable {prog : Program} {w : World} {A : Around} {E : Value → Shared → Prop} {s : Shared} {env : Env} {h₀ : Heap}
theorem codeN_forLoop {R : Result → Shared → Prop} {target : Expr} {it : Value} {body orelse : List Stmt} (I : Nat → Shared → Prop)
    (turn : ∀ n s, I n s → wpAny (model prog w) A (pyNext it) (fun r s₁ => match r with
      | none => wpAny (model prog w) A (execs orelse env) (fun f s₃ => R (.ok f) s₃) (notedBy (model prog w) A env fun e s' => R (.error e) s') s₁
      | some v => wpAny (model prog w) A (assign target env v) (fun _ s₂ => wpN (model prog w) A (execs body env) (fun f s₃ => match f with
          | .next | .cont => ∃ m, m < n ∧ I m s₃
          | .brk => R (.ok .next) s₃
          | .ret v => R (.ok (.ret v)) s₃) (notedBy (model prog w) A env fun e s' => R (.error e) s') s₂) (notedBy (model prog w) A env fun e s' => R (.error e) s') s₁) (notedBy (model prog w) A env fun e s' => R (.error e) s') s)
    (n : Nat) (h : I n s) (ht : ∀ v, letOwnedTupleGo target it v = pure () := by intro _; rfl) : codeN (model prog w) A (.forLoop target it body orelse env) R s := by
  refine codeN_loopB rfl rfl I (fun n s hI => ?_) n h
  show wpN _ A ((forTurn target it body orelse env).onRaise (fun x => do noteFrame x env; theTreesLotGoes x)) _ _ s
  refine noted_N ?_
  simp only [forTurn]
  refine wpN_bindA (wpAny_standAt (wpN_bindA (wpAny_onRaise (wpAny_mono (turn n s hI) (fun r s₁ h₁ => ?_) fun _ _ h' => wpAny_standAt h'))))
  cases r with
  | none => exact wpN_pure (.inr ⟨rfl, codeN_of (codeAny_block h₁)⟩)
  | some v =>
    refine wpN_bindA (wpAny_of_eq (ht v) ?_)
    refine wpN_bindA (wpAny_mono h₁ (fun _ s₂ h₂ => wpN_bind (wpN_mono h₂ (fun f s₃ h₃ => ?_) fun _ _ h' => h')) fun _ _ h' => h')
    cases f with
    | next => exact wpN_pure (.inl ⟨rfl, h₃⟩)
    | cont => exact wpN_pure (.inl ⟨rfl, h₃⟩)
    | brk => exact wpN_pure h₃
    | ret v => exact wpN_pure h₃
theorem codeN_forLoop_frV {R : Result → Shared → Prop} {x : PySem.Str} {px : Pos} {body : List Stmt} {I : Addr} {fp wr : List Addr} {n : Nat} {P : Nat → Value → Prop} {St : Nat → Heap → Prop} {m : PySem.Str → Option Value}
    {news : List (Addr × Obj)} (W : Walks prog w A I fp wr n P St) (hx : env.kindOf x = some .local)
    (hp : (env.scope.kind == .class || (env.scope.kind == .module && env.locals != env.globals)) = false)
    (hLf : env.locals ∉ fp) (hwr : ∀ b ∈ wr, h₀.get? b = none) (hnw : ∀ p ∈ news, p.1 ∉ wr)
    (hst : St 0 s.heap) (F : Fr h₀ env.locals s.heap m) (N : News h₀ env.locals s.heap news)
    (J : Nat → (PySem.Str → Option Value) → List (Addr × Obj) → Prop) (h0 : J 0 m news)
    (step : ∀ i v m₁ news₁ s₁ own, (∃ h tk, s₁ = { s with heap := h, toks := tk }) → i < n → P i v → J i m₁ news₁ → (∀ p ∈ news₁, p.1 ∉ wr) → (∀ p ∈ own, p.1 ∈ fp) → (∀ p ∈ own, s₁.heap.get? p.1 = some p.2) → (∀ b ∈ fp, h₀.get? b = none → ∀ o, s₁.heap.get? b = some o → (b, o) ∈ own) → St (i + 1) s₁.heap →
      Fr h₀ env.locals s₁.heap (fun y => if y = x then some v else m₁ y) → News h₀ env.locals s₁.heap (own ++ news₁) →
      wpN (model prog w) A (execs body env) (LoopStepV h₀ env.locals wr own (J (i + 1)) s₁ (fun v s' => R (.ok (.ret v)) s') fun s' => R (.ok .next) s') (notedBy (model prog w) A env fun e s' => R (.error e) s') s₁)
    (hR : ∀ h' tk m' news', Fr h₀ env.locals h' m' → News h₀ env.locals h' news' → (∀ p ∈ news', p.1 ∉ wr) → J n m' news' → R (.ok .next) { s with heap := h', toks := tk }) :
    codeN (model prog w) A (.forLoop (.Name x px) (.ref I) body [] env) R s := by
  have hLw : env.locals ∉ wr := fun h => hLf (W.sub _ h)
  have old : ∀ b o, h₀.get? b = some o → b ∉ wr := fun b o e hb => by rw [hwr b hb] at e; cases e
  refine codeN_forLoop
    (fun k s' => ∃ h' tk m' news' i, s' = { s with heap := h', toks := tk } ∧ St i h' ∧ Fr h₀ env.locals h' m' ∧ News h₀ env.locals h' news' ∧ (∀ p ∈ news', p.1 ∉ wr) ∧ J i m' news' ∧ i ≤ n ∧ k = n + 1 - i) ?_ (n + 1)
    ⟨s.heap, s.toks, m, news, 0, rfl, hst, F, N, hnw, h0, Nat.zero_le _, rfl⟩
  rintro k s' ⟨h', tk, m', news', i, rfl, hst', F', N', hnw', hJ, hi, rfl⟩
  have next : ∀ h₁ : Heap, (∀ b o, b ∉ wr → h'.get? b = some o → h₁.get? b = some o) → Fr h₀ env.locals h₁ m' ∧ News h₀ env.locals h₁ news' := fun h₁ hk₁ =>
    ⟨⟨F'.ns.at' fun o e => hk₁ _ o hLw e, fun b o e => hk₁ b o (old b o e) (F'.keep b o e), F'.above⟩, fun p hp => ⟨hk₁ _ _ (hnw' p hp) (N' p hp).1, (N' p hp).2⟩⟩
  by_cases hlt : i < n
  · refine W.item i _ _ _ hlt hst' fun v h₁ tk₁ hP hst₁ hk₁ => ?_
    obtain ⟨F₁, N₁⟩ := next h₁ hk₁
    refine wpAny_assign_Name (wpAny_storeName_local hx F₁.ns (fun h₂ hn₂ hs₂ => ?_) hp)
    have F₂ := F₁.set hn₂ hs₂
    have Nown : News h₀ env.locals h₂ (ownOf h₀ fp h₂) := news_ownOf hLf
    have hst₂ : St (i + 1) h₂ := W.frame _ _ _ hst₁ fun b hb o e => (hs₂.2 b fun q => hLf (q ▸ hb)).trans e
    refine wpN_mono (step i v m' news' _ (ownOf h₀ fp h₂) ⟨_, _, rfl⟩ hlt hP hJ hnw' ownOf_sub (fun p hp => (Nown p hp).1) (fun b hb hn o e => mem_ownOf hb hn e) hst₂ F₂ (Nown.append (N₁.set hs₂))) (fun f s₃ h₃ => ?_) fun _ _ e => e
    have fin : LoopStepU h₀ env.locals wr (ownOf h₀ fp h₂) (J (i + 1)) { s with heap := h₂, toks := tk₁ } .next s₃ → ∃ k', k' < n + 1 - i ∧ ∃ h' tk m' news' i', s₃ = { s with heap := h', toks := tk } ∧ St i' h' ∧ Fr h₀ env.locals h' m' ∧ News h₀ env.locals h' news' ∧ (∀ p ∈ news', p.1 ∉ wr) ∧ J i' m' news' ∧ i' ≤ n ∧ k' = n + 1 - i' := by
      rintro ⟨_, h₃', tk₃, m₂, news₂, rfl, F₃, N₃, ha₃, hJ₃⟩
      refine ⟨n + 1 - (i + 1), by omega, h₃', tk₃, m₂, news₂, i + 1, rfl, ?_, F₃, N₃.right, ha₃, hJ₃, hlt, rfl⟩
      refine W.frame _ _ _ hst₁ fun b hb o e => ?_
      have e₂ : h₂.get? b = some o := (hs₂.2 b fun q => hLf (q ▸ hb)).trans e
      cases hn : h₀.get? b with
      | some o₀ =>
        have : o₀ = o := by have := F₂.keep b o₀ hn; rw [e₂] at this; exact (Option.some.inj this).symm
        exact this ▸ F₃.keep b o₀ hn
      | none => exact (N₃ _ (List.mem_append_left _ (mem_ownOf hb hn e₂))).1
    cases f with
    | ret v => exact h₃
    | brk => exact h₃
    | cont => exact fin h₃
    | next => exact fin h₃
  · have hin : i = n := by omega
    subst hin
    refine W.done _ _ _ hst' fun h₁ tk₁ hk₁ => wpAny_execs_nil ?_
    obtain ⟨F₁, N₁⟩ := next h₁ hk₁
    exact hR h₁ tk₁ m' news' F₁ N₁ hnw' hJ
def LoopAtN (prog : Program) (w : World) (A : Around) (h₀ : Heap) (env : Env) (x : PySem.Str) (body : List Stmt) (Q : Flow → Shared → Prop) (E : Value → Shared → Prop) (it : Value) (s₂ : Shared) : Prop :=
  ∃ (I : Addr) (fp wr : List Addr) (n : Nat) (P : Nat → Value → Prop) (St : Nat → Heap → Prop) (m : PySem.Str → Option Value) (news : List (Addr × Obj)) (J : Nat → (PySem.Str → Option Value) → List (Addr × Obj) → Prop),
    it = .ref I ∧ Walks prog w A I fp wr n P St ∧ env.locals ∉ fp ∧ (∀ b ∈ wr, h₀.get? b = none) ∧ (∀ p ∈ news, p.1 ∉ wr) ∧ St 0 s₂.heap ∧ Fr h₀ env.locals s₂.heap m ∧ News h₀ env.locals s₂.heap news ∧ J 0 m news ∧
    (∀ i v m₁ news₁ s₁ own, (∃ h tk, s₁ = { s₂ with heap := h, toks := tk }) → i < n → P i v → J i m₁ news₁ → (∀ p ∈ news₁, p.1 ∉ wr) → (∀ p ∈ own, p.1 ∈ fp) → (∀ p ∈ own, s₁.heap.get? p.1 = some p.2) → (∀ b ∈ fp, h₀.get? b = none → ∀ o, s₁.heap.get? b = some o → (b, o) ∈ own) → St (i + 1) s₁.heap →
      Fr h₀ env.locals s₁.heap (fun y => if y = x then some v else m₁ y) → News h₀ env.locals s₁.heap (own ++ news₁) →
      wpN (model prog w) A (execs body env) (LoopStepV h₀ env.locals wr own (J (i + 1)) s₁ (fun v s' => Q (.ret v) s') fun s' => Q .next s') E s₁) ∧
    ∀ h' tk m' news', Fr h₀ env.locals h' m' → News h₀ env.locals h' news' → (∀ p ∈ news', p.1 ∉ wr) → J n m' news' → Q .next { s₂ with heap := h', toks := tk }
theorem wpN_passes {t : Sem Flow} {Q : Flow → Shared → Prop} (hE : PassesOwn (model prog w) A env E) (h : wpN (model prog w) A t Q E s) : wpN (model prog w) A t Q (notedBy (model prog w) A env (cameBackBy (model prog w) A env E)) s := wpN_mono h (fun _ _ x => x) hE
theorem N_For {Q : Flow → Shared → Prop} {x : PySem.Str} {px pos : Pos} {iter : Expr} {body : List Stmt} (h₀ : Heap) (hx : env.kindOf x = some .local)
    (hp : (env.scope.kind == .class || (env.scope.kind == .module && env.locals != env.globals)) = false)
    (h : wpAny (model prog w) A (eval iter env) (fun xv s₁ => wpAny (model prog w) A (pyIter xv) (fun it s₂ => LoopAtN prog w A h₀ env x body Q E it s₂) E s₁) E s)
    (hs : ∀ x, foldedSetIterable iter env x = pure x := by intro _; rfl)
    (hE : PassesOwn (model prog w) A env E := by passes_own) :
    wpN (model prog w) A (exec (.For (.Name x px) iter body [] pos) env) Q E s := by
  rw [exec_For]
  refine wpN_bindA (wpAny_standAt (wpN_bindA (wpAny_mono h (fun xv s₁ h₁ => wpN_bindA (wpAny_of_eq (hs xv) (wpN_bindA (wpAny_standAt (wpN_bindA (wpAny_holding
    (wpAny_mono h₁ (fun it s₂ h₂ => N_runOwn ?_) fun _ _ h' => h'))))))) fun _ _ h' => h')))
  obtain ⟨I, fp, wr, n, P, St, m, news, J, rfl, W, hLf, hwr, hnw, hst, F, N, h0, step, hQ⟩ := h₂
  exact codeN_forLoop_frV (R := fun r s' => match r with | .ok f => Q f s' | .error e => cameBackBy (model prog w) A env E e s') W hx hp hLf hwr hnw hst F N J h0 (by intros; exact wpN_passes hE (by apply step <;> assumption)) hQ
variable {Q : Flow → Shared → Prop} {x : PySem.Str} {body : List Stmt}
theorem loop_inv_N {I : Addr} {fp wr : List Addr} {n : Nat} {P : Nat → Value → Prop} {St : Nat → Heap → Prop} {m₀ : PySem.Str → Option Value} {news : List (Addr × Obj)} (J : Nat → (PySem.Str → Option Value) → List (Addr × Obj) → Prop)
    (W : Walks prog w A I fp wr n P St) (hLf : env.locals ∉ fp) (hwr : ∀ b ∈ wr, h₀.get? b = none) (hnw : ∀ p ∈ news, p.1 ∉ wr) (hfp : ∀ q ∈ news, q.1 ∉ fp) (hst : St 0 s.heap) (F : Fr h₀ env.locals s.heap m₀) (N : News h₀ env.locals s.heap news) (hj : J 0 m₀ news)
    (turn : ∀ i v m₁ news₁ h tk own, i < n → P i v → news₁.map (·.1) = news.map (·.1) → OwnOff own (news.map (·.1)) → J i m₁ news₁ → Fr h₀ env.locals h (fun y => if y = x then some v else m₁ y) → News h₀ env.locals h (news₁ ++ own) →
      wpN (model prog w) A (execs body env) (InvPostN h₀ env.locals (J (i + 1)) own (news.map (·.1)) { s with heap := h, toks := tk } Q) E { s with heap := h, toks := tk })
    (done : ∀ m₁ news₁ h tk, J n m₁ news₁ → Fr h₀ env.locals h m₁ → News h₀ env.locals h news₁ → Q .next { s with heap := h, toks := tk }) :
    LoopAtN prog w A h₀ env x body Q E (.ref I) s := by
  let J' : Nat → (PySem.Str → Option Value) → List (Addr × Obj) → Prop := fun i m₁ news₁ => news₁.map (·.1) = news.map (·.1) ∧ J i m₁ news₁
  refine ⟨I, fp, wr, n, P, St, m₀, news, J', rfl, W, hLf, hwr, hnw, hst, F, N, ⟨rfl, hj⟩, ?_, ?_⟩
  · rintro i v m₁ news₁ s₁ own ⟨hh', tk', rfl⟩ hin hP ⟨hadr, hJ⟩ hoff hown _ _ _ F₁ N₁
    have hsep : OwnOff own (news.map (·.1)) := by
      intro p hp b hb e
      obtain ⟨q, hq, rfl⟩ := List.mem_map.mp hb
      exact hfp q hq (e ▸ hown p hp)
    have N₂ : News h₀ env.locals hh' (news₁ ++ own) := fun p hp => N₁ p ((List.mem_append.mp hp).elim (fun h => List.mem_append.mpr (.inr h)) fun h => List.mem_append.mpr (.inl h))
    refine wpN_mono (turn i v m₁ news₁ hh' tk' own hin hP hadr hsep hJ F₁ N₂) (fun f s₂ p => ?_) fun _ _ e => e
    have fin : InvEndN h₀ env.locals (J (i + 1)) own (news.map (·.1)) { s with heap := hh', toks := tk' } s₂ → LoopStepU h₀ env.locals wr own (J' (i + 1)) { s with heap := hh', toks := tk' } .next s₂ := by
      rintro ⟨h', tk, m', news', nx, e, F', N', hn, ho, ha, hm⟩
      refine ⟨rfl, h', tk, m', nx, e, F', fun p hp => N' p ((List.mem_append.mp hp).elim (ho p) (hn p)), fun p hp hq => ?_, ha, hm⟩
      have h1 : p.1 ∈ nx.map (·.1) := List.mem_map.mpr ⟨p, hp, rfl⟩
      rw [ha, ← hadr] at h1
      obtain ⟨q, hq1, hq2⟩ := List.mem_map.mp h1
      exact hoff q hq1 (by rw [hq2]; exact hq)
    cases f with
    | ret v => exact .ret p
    | brk => exact .brk p
    | next => exact .next (fin p)
    | cont => exact .cont (fin p)
  · rintro h' tk m' news' F' N' _ ⟨_, hJ⟩
    exact done m' news' h' tk hJ F' N'
theorem range_N {σ : Type} {r : Addr} {a₀ b₀ : Int} {t₀ u₀ v₀ : Tok} {n : Nat} {m₀ : PySem.Str → Option Value} (Led : σ → List (Addr × Obj)) (ps : σ → List (PySem.Str × Value)) (Facts : σ → Prop) (stored : List PySem.Str) (P : List Int → σ → Prop) (c₀ : σ)
    (hh : A.handled = none) (hr : IsRange s.heap r a₀ b₀ 1 t₀ u₀ v₀) (hsmall : Builtin.Range.small a₀ b₀ 1 = true) (hn : Builtin.Range.rangeSize a₀ b₀ 1 = (n : Int)) (F : Fr h₀ env.locals s.heap m₀) (N : News h₀ env.locals s.heap (Led c₀)) (hf : Facts c₀) (hk : ∀ p ∈ ps c₀, m₀ p.1 = some p.2) (hp : P [] c₀)
    (turn : ∀ (c : σ) (pre : List Int) (k : Int) t (u : PySem.Str → Option Value) h tk own, k = a₀ + (pre.length : Int) → pre.length < n → OwnOff own ((Led c₀).map (·.1)) → Facts c → P pre c →
      Fr h₀ env.locals h (fun y => if y = x then some (.int k t) else kstB (fun z => if stored.contains z then u z else m₀ z) (ps c) y) → News h₀ env.locals h (Led c ++ own) →
      wpN (model prog w) A (execs body env) (InvPostN h₀ env.locals (KstS Led ps Facts x stored m₀ P (pre ++ [k])) own ((Led c₀).map (·.1)) { s with heap := h, toks := tk } Q) E { s with heap := h, toks := tk })
    (done : ∀ (c : σ) (u : PySem.Str → Option Value) h tk, Facts c → P (rangeKs a₀ n) c → Fr h₀ env.locals h (fun y => if y = x then u y else kstB (fun z => if stored.contains z then u z else m₀ z) (ps c) y) → News h₀ env.locals h (Led c) → Q .next { s with heap := h, toks := tk }) :
    wpAny (model prog w) A (pyIter (.ref r)) (fun it s₂ => LoopAtN prog w A h₀ env x body Q E it s₂) E s := by
  refine wpAny_pyIter_range hr hsmall ?_
  have W : Walks prog w A s.heap.objs.size [s.heap.objs.size] [s.heap.objs.size] n (fun i v => i < n ∧ ∃ t, v = .int (a₀ + i * 1) t)
      (fun i h => IsRangeIter h s.heap.objs.size (a₀ + (i : Nat) * 1) ((n : Int) - (i : Nat)) 1) := (Walks.range hh _ a₀ 1 n).bound
  refine loop_inv_N (fun i m nx => KstS Led ps Facts x stored m₀ P ((rangeKs a₀ n).take i) m nx) W ?_ ?_ ?_ ?_ (by show IsRangeIter _ _ _ _ _; rw [hn]; simpa using Heap.get?_push_size _ rfl) (F.push _) (fun p hp => ⟨Heap.get?_push_of_some _ (N p hp).1, (N p hp).2⟩) ⟨c₀, rfl, hf, hk, fun _ _ _ _ => rfl, by simpa using hp⟩ ?_ ?_
  · intro hm
    exact absurd F.ns.lt ((List.mem_singleton.mp hm) ▸ Nat.lt_irrefl _)
  · intro b hb
    rw [List.mem_singleton.mp hb]
    exact next_is_new F
  · intro p hp hI
    exact absurd (Heap.lt_size (N p hp).1) ((List.mem_singleton.mp hI) ▸ Nat.lt_irrefl _)
  · intro p hp hI
    exact absurd (Heap.lt_size (N p hp).1) ((List.mem_singleton.mp hI) ▸ Nat.lt_irrefl _)
  · rintro i v m₁ nx h tk own hi ⟨_, t, rfl⟩ _ hoff ⟨c, rfl, hf', h1, h2, hp'⟩ F₁ N₁
    have e1 : a₀ + (i : Int) * 1 = a₀ + (i : Int) := by omega
    rw [e1] at F₁
    have hk' : (rangeKs a₀ n)[i]? = some (a₀ + (i : Int)) := by simp [rangeKs, hi]
    have hs : (rangeKs a₀ n).take (i + 1) = (rangeKs a₀ n).take i ++ [a₀ + (i : Int)] := by simp [List.take_add_one, hk']
    have hlen : ((rangeKs a₀ n).take i).length = i := by rw [List.length_take, rangeKs_length]; omega
    rw [hs]
    exact turn c _ _ t m₁ h tk own (by rw [hlen]) (by rw [hlen]; exact hi) hoff hf' hp' (kst_fr h1 h2 F₁) N₁
  · rintro m₁ nx h tk ⟨c, rfl, hf', h1, h2, hp'⟩ F₁ N₁
    have hl : (rangeKs a₀ n).take n = rangeKs a₀ n := List.take_of_length_le (Nat.le_of_eq (rangeKs_length _ _))
    rw [hl] at hp'
    exact done c m₁ h tk hf' hp' (kst_frOut h1 h2 F₁) N₁
end
end
section
open PySem PySem.W PyProof.Rows PySem.Calls PySem.Spec
section
variable {prog : Program} {w : World} {A₀ : Around} {E : Value → Shared → Prop} {s' : Shared} {base g G : Heap} {L a e t C D : Addr} {m : PySem.Str → Option Value} {name : PySem.Str} {scope : Scope} {cd : Value} {cl : List (PySem.Str × Addr)}
  {vs : List Value} {pos np : Pos} {rest hs : List ExceptHandler} {b₀ : Stmt} {suite : List Stmt} {Q : Flow → Shared → Prop} {news : List (Addr × Obj)} {KF : Frag} {x : PySem.Str} {b : Bool}
  {p : Program} {loose : List PySem.Str} {mean : ExcName → Option Value} {mg mb : PySem.Str → Option Value}
theorem ground_X (K : Below A₀ base [] g) (F : Fr g L G m) {B h₅ : Heap} (hBG : ∀ b o, G.get? b = some o → b ∉ [envX name scope L a cd cl].filterMap (·.frame) → B.get? b = some o) (hBh : B.StaysIn h₅) (hsm : G.UpToSlots h₅) : Fr g L h₅ m := by
  refine ⟨hsm.ns F.ns, fun b o q => hBh b o (hBG b o (F.keep b o q) fun hm => ?_), F.above⟩
  have e : b = L := by
    have : b ∈ [L] := hm
    exact List.mem_singleton.mp this
  subst e
  rw [kts_self F] at q
  cases q
theorem look_X (R : RaisedS base G [envX name scope L a cd cl] e (.ref C) t vs news s'.heap) (K : Below A₀ base [] g) (hsm : G.UpToSlots s'.heap)
    (k : ∀ h', RaisedS base G [envX name scope L a cd cl] e (.ref C) t vs news h' → G.UpToSlots h' → wpAny (model prog w) (A₀.deeper (envX name scope L a cd cl)) (handleBy (.ref e) (envX name scope L a cd cl) hs) Q E { s' with heap := h' }) :
    wpAny (model prog w) (A₀.deeper (envX name scope L a cd cl)) (noteFrame (.ref e) (envX name scope L a cd cl))
      (fun _ s₂ => wpAny (model prog w) (A₀.deeper (envX name scope L a cd cl)) (setFlight (.ref e) none) (fun _ s₃ =>
        wpAny (model prog w) (A₀.deeper (envX name scope L a cd cl)) (handleBy (.ref e) (envX name scope L a cd cl) hs) Q E s₃) E s₂) E s' := by
  obtain ⟨⟨B, hB, hBG, hl, hfl, hnew⟩, htup⟩ := R
  refine wpAny_looks_onW (Around.frames_deeper K.stack) rfl hfl fun h₄ hheld₄ hsm₄ => wpAny_landsW hheld₄ fun h₅ hheld hsm₅' => ?_
  exact k h₅ ⟨⟨B, hB, hBG, hl, hheld, hnew⟩, htup.of_slots (hsm₄.trans hsm₅')⟩ (hsm.trans (hsm₄.trans hsm₅'))
theorem test_X {A : Around} {Q : Bool → Shared → Prop} {s : Shared} (F : Fr g L s.heap m) (X : KF.In g) (T : TopRead p loose mg mb g) (LT : Looks (model prog w) s.heap (typeOf (.ref e)) (.ref C)) (e1 : nsIn KF mainGlobals x = some (some (.ref D))) (he : exmOne KF (.ref C) (.ref D) = some b)
    (hk : scope.kind = .function) (hx : (envX name scope L a cd cl).kindOf x = some .globalImplicit) (hd : (x == (PySem.Str.ofString "__debug__")) = false) (q : Q b s) :
    wpAny (model prog w) A (eval (.Name x np) (envX name scope L a cd cl)) (fun c s₁ => wpAny (model prog w) A (excMatches (.ref e) c) Q E s₁) E s :=
  nameX_K F X T e1 ((exm_one (X.keeps F.keep) LT he).here q) hk hx hd
theorem pass_X (R : RaisedS base G [envX name scope L a cd cl] e (.ref C) t vs news s'.heap) (F : Fr g L G m) (K : Below A₀ base [] g) (hsm : G.UpToSlots s'.heap) (X : KF.In g) (T : Top p loose mean mg mb g)
    (e1 : nsIn KF mainGlobals x = some (some (.ref D))) (he : exmOne KF (.ref C) (.ref D) = some false)
    (hk : scope.kind = .function) (hx : (envX name scope L a cd cl).kindOf x = some .globalImplicit) (hd : (x == (PySem.Str.ofString "__debug__")) = false)
    (k : wpAny (model prog w) (A₀.deeper (envX name scope L a cd cl)) (handleBy (.ref e) (envX name scope L a cd cl) rest) Q E s') :
    wpAny (model prog w) (A₀.deeper (envX name scope L a cd cl)) (handleBy (.ref e) (envX name scope L a cd cl) (.ExceptHandler (some (.Name x np)) none (b₀ :: suite) pos :: rest)) Q E s' := by
  obtain ⟨⟨B, _, hBG, _, hfl, _⟩, _⟩ := id R
  have F₅ := ground_X K F hBG hfl.1 hsm
  exact wpAny_handleBy_cons (codeAny_handlers_test (test_X F₅ X (topRead_of T) R.toSN.ty e1 he hk hx hd k)) (by intro q; cases q)
theorem hit_X (R : RaisedS base G [envX name scope L a cd cl] e (.ref C) t vs news s'.heap) (F : Fr g L G m) (K : Below A₀ base [] g) (hsm : G.UpToSlots s'.heap) (X : KF.In g) (T : Top p loose mean mg mb g)
    (e1 : nsIn KF mainGlobals x = some (some (.ref D))) (he : exmOne KF (.ref C) (.ref D) = some true)
    (hk : scope.kind = .function) (hx : (envX name scope L a cd cl).kindOf x = some .globalImplicit) (hd : (x == (PySem.Str.ofString "__debug__")) = false)
    (k : ∀ h', Fr g L h' m → News g L h' news → wpAny (model prog w) ((A₀.deeper (envX name scope L a cd cl)).mark (some (.ref e))) (execs (b₀ :: suite) (envX name scope L a cd cl)) Q E { s' with heap := h' })
    (hE : PassesOwnAt (model prog w) ((A₀.deeper (envX name scope L a cd cl)).mark (some (.ref e))) (A₀.deeper (envX name scope L a cd cl)) (envX name scope L a cd cl) E) :
    wpAny (model prog w) (A₀.deeper (envX name scope L a cd cl)) (handleBy (.ref e) (envX name scope L a cd cl) (.ExceptHandler (some (.Name x np)) none (b₀ :: suite) pos :: rest)) Q E s' := by
  obtain ⟨⟨B, hB, hBG, hl, hheld, hnew⟩, htup⟩ := id R
  have F₅ := ground_X K F hBG hheld.1 hsm
  refine wpAny_handleBy_cons (codeAny_handlers_test (test_X F₅ X (topRead_of T) R.toSN.ty e1 he hk hx hd ?_)) (by intro q; cases q)
  have hL : B.get? L = none := by
    obtain ⟨_, ⟨L', _, hf, hn', _⟩, _⟩ := hheld.2.2.1
    obtain rfl : L = L' := Option.some.inj hf
    exact hn'
  refine codeAny_handlers_suite ?_
  refine lands_againW hheld fun h₆ hfl₆ hsm₆ => ?_
  have F₆ := ground_X K F hBG hfl₆.1 (hsm.trans hsm₆)
  have N₆ : News g L h₆ news := fun q hq => ⟨hfl₆.1 _ _ (hl q hq).1, (fun z => by have := (hl q hq).1; rw [z, hL] at this; cases this), kts_none F.keep (hl q hq).2.1⟩
  exact wpAny_passesOwnAt hE (k h₆ F₆ N₆)
end
end
section
open PySem PySem.W PyProof.Rows PySem.Calls
def StagePost {σ : Type} (h₀ : Heap) (L : Addr) (s : Shared) (Led : σ → List (Addr × Obj)) (ps : σ → List (PySem.Str × Value)) (stored : List PySem.Str) (m₀ : PySem.Str → Option Value) (P : σ → Prop) (f : Flow) (s' : Shared) : Prop :=
  f = .next ∧ ∃ c h' tk' m' news', s' = { s with heap := h', toks := tk' } ∧ Fr h₀ L h' m' ∧ News h₀ L h' news' ∧ (∀ p ∈ Led c, p ∈ news') ∧ (∀ p ∈ ps c, m' p.1 = some p.2) ∧ (∀ z, (∀ p ∈ ps c, z ≠ p.1) → stored.contains z = false → m' z = m₀ z) ∧ P c
theorem stage_N {σ : Type} {prog : Program} {w : World} {A : Around} {E : Value → Shared → Prop} {s : Shared} {env : Env} {st : Stmt} {Q : Flow → Shared → Prop} {h₀ : Heap} {L : Addr} {m₀ : PySem.Str → Option Value} (Led : σ → List (Addr × Obj)) (ps : σ → List (PySem.Str × Value)) (stored : List PySem.Str) (P : σ → Prop) (_F : Fr h₀ L s.heap m₀)
    (h : wpAny (model prog w) A (exec st env) (StagePost h₀ L s Led ps stored m₀ P) E s)
    (k : ∀ c (u : PySem.Str → Option Value) h tk, P c → Fr h₀ L h (kstB (fun z => if stored.contains z then u z else m₀ z) (ps c)) → News h₀ L h (Led c) → Q .next { s with heap := h, toks := tk }) : wpN (model prog w) A (exec st env) Q E s := by
  refine wpN_of (wpAny_mono h (fun f s' hp => ?_) fun _ _ x => x)
  obtain ⟨rfl, c, h', tk', m', news', rfl, F, N, hn, h1, h2, hp⟩ := hp
  exact k c m' h' tk' hp (ksw_fr h1 h2 F) (fun p hp => N p (hn p hp))
theorem stage_end {σ : Type} {h₀ : Heap} {L : Addr} {s : Shared} {Led : σ → List (Addr × Obj)} {ps : σ → List (PySem.Str × Value)} {stored : List PySem.Str} {m₀ : PySem.Str → Option Value} {P : σ → Prop} (c : σ) {h' : Heap} {tk' : Nat} {m' : PySem.Str → Option Value} {news' : List (Addr × Obj)}
    (F : Fr h₀ L h' m') (N : News h₀ L h' news') (hn : ∀ p ∈ Led c, p ∈ news') (h1 : ∀ p ∈ ps c, m' p.1 = some p.2) (h2 : ∀ z, (∀ p ∈ ps c, z ≠ p.1) → stored.contains z = false → m' z = m₀ z) (hp : P c) : StagePost h₀ L s Led ps stored m₀ P .next { s with heap := h', toks := tk' } :=
  ⟨rfl, c, h', tk', m', news', rfl, F, N, hn, h1, h2, hp⟩
def digs (os : List Int) : Prop := ∀ x ∈ os, 48 ≤ x ∧ x ≤ 57
end
section
open PySem PySem.W PyProof.Rows PySem.Calls
namespace BJ
open Builtin
theorem slot_join : Slot "bytes" "join" "bytes.join" :=
  .of (owner := "bytes") (n := "join") (by rw [typeLookup_type, builtinLookup_eq_fast]; kernel_rfl) (by decide +kernel) (by decide +kernel) (by decide +kernel)
    (by first | exact .inl (by decide +kernel) | exact .inr (by decide +kernel)) (by rw [isSubtype_type]; kernel_rfl)
theorem entry_join : entryFor table "bytes.join" = some Builtin.«bytes.join» := entryFor_of_tree (by kernel_rfl)
theorem args_join (a b : Value) : argsOk "bytes.join" ⟨[a, b], []⟩ := by unfold argsOk; kernel_rfl
theorem type_join : typeOf (.builtin "bytes.join") = pure (.type "method_descriptor") := by show builtinType _ = _; rw [builtinType_eq_fast]; kernel_rfl
inductive ByArr : List Value → List (Array UInt8) → Prop
  | nil : ByArr [] []
  | cons (b : Array UInt8) (t : Tok) {vs : List Value} {bs : List (Array UInt8)} (r : ByArr vs bs) : ByArr (.bytes b t :: vs) (b :: bs)
theorem ByArr.at {vs : List Value} {bs : List (Array UInt8)} (h : ByArr vs bs) : ∀ {i : Nat} {x : Value}, vs[i]? = some x → ∃ b t, x = .bytes b t ∧ bs[i]? = some b := by
  induction h with
  | nil => intro i x e; simp at e
  | cons b t r ih =>
    intro i x e
    cases i with
    | zero => simp only [List.getElem?_cons_zero, Option.some.injEq] at e; exact ⟨b, t, e.symm, rfl⟩
    | succ i => simp only [List.getElem?_cons_succ] at e ⊢; exact ih e
theorem ByArr.length {vs : List Value} {bs : List (Array UInt8)} (h : ByArr vs bs) : vs.length = bs.length := by
  induction h with
  | nil => rfl
  | cons b t r ih => simp [ih]
theorem ByArr.snoc {vs : List Value} {bs : List (Array UInt8)} (h : ByArr vs bs) (b : Array UInt8) (t : Tok) : ByArr (vs ++ [.bytes b t]) (bs ++ [b]) := by
  induction h with
  | nil => exact .cons b t .nil
  | cons b' t' r ih => exact .cons b' t' ih
section
variable {prog : Program} {w : World} {A : Around} {E : Value → Shared → Prop} {s : Shared}
theorem method {M : Model} {b : Array UInt8} {t : Tok} {pl : Sem Bool} {Q : Value × List Value → Shared → Prop} (h : Q (.builtin "bytes.join", [.bytes b t]) s) : wpAny M A (getMethod (.bytes b t) "join" pl) Q E s := by
  with_reducible exact KBd.method_of (.bytes b t) (typeIs_bytes _ _ _) slot_join type_join KBd.noRef h
theorem take_eq {id : String} {b : Array UInt8} {t : Tok} : Bytes.takeBufferQuiet? id (.bytes b t) 0 = pure (some (b, none)) := by
  unfold Bytes.takeBufferQuiet? Bytes.takeBuffer?
  rw [KBy.special_eq KBy.look_buffer, KBy.own_buffer, show ((0 : Int) == Bytes.fullReadOnly) = false from by decide, KBy.buffer_eq]
  kernel_rfl
theorem joinLetGo_id {l : List (Value × Option Value)} (hl : ∀ x ∈ l, x.2 = none) {keep : List Value} {Q : Unit → Shared → Prop} {M : Model} (h : Q () s) : wpAny M A (Bytes.joinLetGo l keep) Q E s := by
  induction l with
  | nil => exact wpAny_pure h
  | cons x l ih =>
    obtain ⟨x, u⟩ := x
    obtain rfl : u = none := hl _ (List.mem_cons_self ..)
    unfold Bytes.joinLetGo
    refine wpAny_bind (wpAny_letGo ?_)
    exact ih fun y hy => hl y (List.mem_cons_of_mem _ hy)
theorem code_join {l : Addr} {sep : Array UInt8} {t : Tok} {vs : List Value} {bs : List (Array UInt8)} {Q₀ : Value → Shared → Prop} (hl : s.heap.IsList l vs.toArray) (hb : ByArr vs bs)
    (hz : (Bytes.tooLong (bs.foldl (· + ·.size) (sep.size * (bs.length - 1)))) = false) (hz2 : (Bytes.joined sep bs).size ≤ sizeLine)
    (hQ : ∀ t k, Q₀ (.bytes (Bytes.joined sep bs) t) { s with toks := k }) : 
    wpAny (model prog w) A (Builtin.«bytes.join» ⟨[.bytes sep t, .ref l], []⟩) (fun fin s' => ∃ v, fin = .done (.ret v) ∧ Q₀ v s') E s := by
  have hT : s.TypeIs (.ref l) "list" := hl.typeIs
  obtain ⟨ol, hol, hoc, nl, hod⟩ := id hl
  unfold Builtin.«bytes.join» Bytes.joinM
  refine wpAny_bind (wpAny_of_eq (a := (Value.bytes sep t, Value.ref l)) rfl ?_)
  dsimp only
  refine wpAny_bind ?_
  show wpAny _ _ (Bytes.joinItems (.ref l)) _ _ _
  unfold Bytes.joinItems
  refine wpAny_bind (m := typeOf _) (wpAny_typeOf hT ?_)
  refine bm_if_true rfl ?_
  refine wpAny_pure ?_
  have items : ∀ (Q : Option (Array Value) → Shared → Prop), Q (some vs.toArray) s → wpAny (model prog w) A (seqItems? (.ref l)) Q E s := by
    intro Q hq
    unfold seqItems?
    refine wpAny_bind (wpAny_load hol ?_)
    rw [hod]
    exact wpAny_pure hq
  refine wpAny_bind (items _ ?_)
  dsimp only
  have last : ∀ ts : List (Value × Option Value), (∀ x ∈ ts, x.2 = none) → wpAny (model prog w) A (do
      let sep ← Bytes.payload (Value.bytes sep t)
      if Bytes.tooLong (Array.foldl (fun x1 x2 => x1 + x2.size) (sep.size * (bs.toArray.size - 1)) bs.toArray) = true then do
          unsupported (toString (toString Bytes.Kind.bytes.name ++ toString ".join") ++ toString ":memory")
          let result ← Bytes.Kind.bytes.new (Bytes.joined sep bs.toArray.toList)
          holding (result :: List.flatMap (fun x => x.fst :: x.snd.toList) ts) point
          Bytes.joinLetGo ts [result]
          ret result
        else do
          let result ← Bytes.Kind.bytes.new (Bytes.joined sep bs.toArray.toList)
          holding (result :: List.flatMap (fun x => x.fst :: x.snd.toList) ts) point
          Bytes.joinLetGo ts [result]
          ret result) (fun fin s' => ∃ v, fin = .done (.ret v) ∧ Q₀ v s') E s := by
    intro ts hts
    refine wpAny_bind (wpAny_of_eq (a := sep) rfl ?_)
    refine bm_if_false (by simpa using hz) ?_
    refine wpAny_bind (m := Bytes.Kind.bytes.new _) ?_
    show wpAny _ _ (mkBytes _) _ _ _
    refine wpAny_mkBytes ?_ hz2
    refine wpAny_bind (wpAny_holding (wpAny_point ?_))
    exact wpAny_bind (joinLetGo_id hts (wpAny_pure ⟨_, rfl, hQ _ _⟩))
  have loop : ∀ {F : Nat → Array (Array UInt8) × List (Value × Option Value) → Sem (ForInStep (Array (Array UInt8) × List (Value × Option Value)))} {Q : Array (Array UInt8) × List (Value × Option Value) → Shared → Prop},
      (∀ i b t' p ts (Q' : ForInStep (Array (Array UInt8) × List (Value × Option Value)) → Shared → Prop), (∀ x ∈ ts, x.2 = none ∧ x.1.onHeap = false) → vs[i]? = some (.bytes b t') → Q' (.yield (p.push b, ts ++ [(.bytes b t', none)])) s → wpAny (model prog w) A (F i (p, ts)) Q' E s) →
      (∀ ts, (∀ x ∈ ts, x.2 = none) → Q (bs.toArray, ts) s) → wpAny (model prog w) A (forIn (List.range' 0 vs.length) ((#[], []) : Array (Array UInt8) × List (Value × Option Value)) F) Q E s := by
    intro F Q turn fin
    refine wpAny_forIn_list F (fun rest r s' => s' = s ∧ (∀ x ∈ r.2, x.2 = none ∧ x.1.onHeap = false) ∧ ∃ i, i ≤ vs.length ∧ rest = List.range' i (vs.length - i) ∧ r.1 = (bs.take i).toArray) Q ?_ ?_ _ _ ⟨rfl, by simp, 0, by omega, by simp, by simp⟩
    · rintro x rest ⟨p, ts⟩ s' ⟨rfl, hts, i, hi, hr, hp⟩
      dsimp only at hts hp
      have hlt : i < vs.length := by
        by_cases h : i < vs.length
        · exact h
        · have : vs.length - i = 0 := by omega
          rw [this] at hr
          cases hr
      have e1 : vs.length - i = (vs.length - (i + 1)) + 1 := by omega
      rw [e1, List.range'_succ] at hr
      obtain ⟨rfl, rfl⟩ := List.cons.inj hr
      have hx : vs[x]? = some vs[x] := List.getElem?_eq_getElem hlt
      obtain ⟨b, t', e, eb⟩ := hb.at hx
      rw [e] at hx
      refine turn x b t' p ts _ hts hx ⟨rfl, ?_, x + 1, by omega, rfl, ?_⟩
      · intro y hy
        rcases List.mem_append.mp hy with hy | hy
        · exact hts y hy
        · rw [List.mem_singleton.mp hy]; exact ⟨rfl, rfl⟩
      · rw [hp, List.take_add_one, eb]
        simp
    · rintro ⟨p, ts⟩ s' ⟨rfl, hts, i, hi, hr, hp⟩
      dsimp only at hts hp
      have : vs.length - i = 0 := by
        cases h : vs.length - i with
        | zero => rfl
        | succ k => rw [h, List.range'_succ] at hr; cases hr
      have : bs.length ≤ i := by rw [← hb.length]; omega
      rw [hp, List.take_of_length_le this]
      exact fin ts fun x hx => (hts x hx).1
  refine bm_if_true rfl ?_
  by_cases h1 : vs.length = 1
  · cases hb with
    | nil => cases h1
    | cons b t' r =>
    cases r with
    | cons b2 t2 r2 => simp at h1
    | nil =>
    show wpAny _ _ (typeOf (Value.bytes b t') >>= fun r => _) _ _ _
    refine wpAny_bind (m := typeOf _) (wpAny_typeOf (typeIs_bytes _ _ _) ?_)
    refine bm_if_true (by decide) ?_
    refine wpAny_bind (wpAny_rule ?_)
    have e : Bytes.joined sep [b] = b := by simp [Bytes.joined]
    rw [e] at hQ
    exact wpAny_pure ⟨_, rfl, hQ t' s.toks⟩
  · have hcase : vs = [] ∨ ∃ x y r, vs = x :: y :: r := by
      rcases vs with _ | ⟨x, _ | ⟨y, r⟩⟩
      · exact .inl rfl
      · exact absurd rfl h1
      · exact .inr ⟨x, y, r, rfl⟩
    have e1 : ∀ n : Nat, ([:n] : Std.Legacy.Range).size = n := by intro n; simp [Std.Legacy.Range.size]
    rcases hcase with e | ⟨x, y, r, e⟩
    all_goals subst e
    all_goals show wpAny _ _ (forIn [0:_] _ _ >>= _) _ _ _
    all_goals rw [Std.Legacy.Range.forIn_eq_forIn_range']
    all_goals refine wpAny_bind ?_
    all_goals rw [e1]
    all_goals show wpAny _ _ (forIn (List.range' 0 (List.length _) 1) _ _) _ _ _
    all_goals refine loop ?_ (fun ts hts => last ts hts)
    all_goals intro i b t' p ts Q' hts hx hq
    all_goals refine wpAny_bind (items _ ?_)
    all_goals refine bm_if_false ?_ ?_
    all_goals try exact (Bool.or_eq_false_iff.mpr ⟨rfl, List.any_eq_false.mpr fun x hx => by rw [(hts x hx).2]; exact Bool.false_ne_true⟩)
    · cases hx
    · have hg : ((x :: y :: r).toArray).getD i Value.none = Value.bytes b t' := by simp [Array.getD_eq_getD_getElem?, hx]
      dsimp only
      rw [hg]
      refine wpAny_bind (wpAny_holding (wpAny_of_eq take_eq ?_))
      dsimp only
      refine wpAny_bind (items _ ?_)
      refine bm_if_false (by simp) ?_
      exact wpAny_pure hq
theorem join_K {l : Addr} {sep : Array UInt8} {t : Tok} {vs : List Value} {bs : List (Array UInt8)} {Q : Value → Shared → Prop} (hl : s.heap.IsList l vs.toArray) (hb : ByArr vs bs)
    (hz : (Bytes.tooLong (bs.foldl (· + ·.size) (sep.size * (bs.length - 1)))) = false) (hz2 : (Bytes.joined sep bs).size ≤ sizeLine)
    (hQ : ∀ t k, Q (.bytes (Bytes.joined sep bs) t) { s with toks := k }) : wpAny (model prog w) A (call (.builtin "bytes.join") [.bytes sep t, .ref l]) Q E s :=
  wpAny_call_entry slot_join (typeIs_bytes _ _ _) entry_join (code_join hl hb hz hz2 hQ) (args_join _ _)
end
end BJ
end
section
open PySem PySem.W PyProof.Rows PySem.Calls
section
variable {prog : Program} {w : World} {A : Around} {E : Value → Shared → Prop} {s : Shared} {h₀ : Heap} {L : Addr} {m : PySem.Str → Option Value} {env : Env}
theorem src_range {elt : Expr} {x : PySem.Str} {scope : Scope} {cl : List (PySem.Str × Addr)} {Fin : Shared → List Value → List (Addr × Obj) → Prop} {r : Addr} {a b : Int} {t u v : Tok} {n : Nat} {news : List (Addr × Obj)} {s₁ : Shared}
    (hh : A.handled = none) (F : Fr h₀ L s₁.heap m) (N : News h₀ L s₁.heap news) (hr : IsRange s₁.heap r a b 1 t u v) (hsm : Builtin.Range.small a b 1 = true) (hn : Builtin.Range.rangeSize a b 1 = ((n : Nat) : Int)) (hsz : n ≤ sizeLine)
    (h : ∀ g, LCg.CompRest prog w A h₀ L m env elt x scope cl { s₁ with heap := g } (fun _ => True) (fun i v => ∃ t, v = .int (a + (i : Int)) t) (Fin { s₁ with heap := g }) n 0 [] news) :
    LCg.CompSrc prog w A h₀ L m env elt x scope cl Fin (.ref r) s₁ := LCg.CompSrc.range hh F N hr hsm hn hsz h
/-- the turns of a comprehension whose elements turn the ledger -/
theorem comp_restS {σ : Type} {elt : Expr} {x : PySem.Str} {scope : Scope} {cl : List (PySem.Str × Addr)} {P : Nat → Value → Prop} {Fin : List Value → List (Addr × Obj) → Prop} {n : Nat} (Led : σ → List (Addr × Obj)) (Inv : σ → List Value → Prop) (c₀ : σ) (h0 : Inv c₀ [])
    (turn : ∀ c i v I oI C oC D m₂ ys h tk (E' : Value → Shared → Prop), Inv c ys → ys.length < n → P i v → LCg.NsObj oC m₂ → m₂ x = some v → Fr h₀ L h m → News h₀ L h ((I, oI) :: (C, oC) :: (D, LCg.lst ys) :: Led c) → LCg.Off3 I C D (Led c) → ((@Ne Nat I C) ∧ (@Ne Nat I D) ∧ (@Ne Nat C D)) →
      wpAny (model prog w) A (eval elt (compEnvC scope cl C env)) (LCg.CompEnd h₀ L m { s with heap := h, toks := tk } I oI C oC D (LCg.lst ys) (fun _ => True) (fun y news' => ∃ c', news' = Led c' ∧ Inv c' (ys ++ [y]))) E' { s with heap := h, toks := tk })
    (fin : ∀ c ys, Inv c ys → ys.length = n → Fin ys (Led c)) : LCg.CompRest prog w A h₀ L m env elt x scope cl s (fun _ => True) P Fin n 0 [] (Led c₀) := by
  have key : ∀ (j i : Nat) (ys : List Value) (c : σ), i + j = n → ys.length = i → Inv c ys → LCg.CompRest prog w A h₀ L m env elt x scope cl s (fun _ => True) P Fin j i ys (Led c) := by
    intro j
    induction j with
    | zero =>
      intro i ys c hi hy hI
      exact LCg.CompRest.zero (fin c ys hI (by omega))
    | succ j ih =>
      intro i ys c hi hy hI
      refine LCg.CompRest.succ ?_
      intro v I oI C oC D m₂ h tk E' hv hC hx F N off ne
      refine wpAny_mono (turn c i v I oI C oC D m₂ ys h tk E' hI (by omega) hv hC hx F N off ne) (fun y s₂ hq => ?_) fun _ _ e => e
      obtain ⟨h', tk', nw, e, F', N', off', hS, c', hn, hI'⟩ := hq
      refine ⟨h', tk', nw, e, F', N', off', hS, ?_⟩
      rw [hn]
      exact ih (i + 1) _ c' (by omega) (by simp [hy]) hI'
  exact key n 0 [] c₀ (by omega) rfl h0
end
theorem joined_ints (bs : List (Array UInt8)) : KBw.bInts (Builtin.Bytes.joined #[] bs) = (bs.map KBw.bInts).flatten := by
  unfold Builtin.Bytes.joined
  have key : ∀ (l : List (Array UInt8)) (k : Nat) (acc : Array UInt8), KBw.bInts ((l.zipIdx k).foldl (fun out x => match x with | (p, i) => (if i > 0 then out ++ #[] else out) ++ p) acc) = KBw.bInts acc ++ (l.map KBw.bInts).flatten := by
    intro l
    induction l with
    | nil => intro k acc; simp
    | cons b l ih =>
      intro k acc
      rw [List.zipIdx_cons, List.foldl_cons, ih]
      have : (if k > 0 then acc ++ #[] else acc) = acc := by split <;> simp
      simp only [this]
      simp [KBw.bInts]
  have := key bs 0 #[]
  simpa [KBw.bInts] using this
end
section
open PySem PySem.W PyProof.Rows PySem.Calls
theorem eqAt_bytes {A : Around} {s : Shared} (a : Array UInt8) (t : Tok) (b : Array UInt8) (u : Tok) : SeqAt.EqAt A s (.bytes a t) (.bytes b u) (a.toList == b.toList) := fun prog w E Q h => by
  unfold eqBool
  refine wpAny_holding ?_
  refine wpAny_ite_split (fun hab => ?_) (fun _ => ?_)
  · have e : a = b := by have := eq_of_beq hab; injection this
    subst e
    rw [beq_self_eq_true] at h
    exact wpAny_bind (wpAny_rule (wpAny_pure h))
  · exact wpAny_bind (W.eq_bytes (wpAny_truthy_bool h))
theorem bInts_32 {g : Array UInt8} {o : List Int} (h : KBw.bInts g = o) : (g.toList == [(32 : UInt8)]) = decide (o = [32]) := by
  subst h
  rw [Bool.eq_iff_iff, beq_iff_eq, decide_eq_true_eq]
  constructor
  · intro e
    unfold KBw.bInts
    rw [e]
    rfl
  · intro e
    unfold KBw.bInts at e
    cases hl : g.toList with
    | nil => rw [hl] at e; cases e
    | cons c l =>
      rw [hl] at e
      cases l with
      | cons d l => simp at e
      | nil =>
        simp only [List.map_cons, List.map_nil, List.cons.injEq, and_true] at e
        have : c.toNat = (32 : UInt8).toNat := by simpa using (by omega : c.toNat = 32)
        rw [UInt8.toNat_inj.mp this]
theorem gaps_eq {prog : Program} {w : World} {A : Around} {E : Value → Shared → Prop} {s : Shared} {ga gb : Addr} {g1 g2 : Array UInt8} {t1 t2 u1 u2 : Tok} {o1 o2 : List Int} {Q : Value → Shared → Prop} (hl : s.heap.IsList ga #[.bytes g1 t1, .bytes g2 t2]) (hb : s.heap.IsList gb #[.bytes #[32] u1, .bytes #[32] u2])
    (h1 : KBw.bInts g1 = o1) (h2 : KBw.bInts g2 = o2) (hu : A.units < cLine) (h : Q (.bool (decide (o1 = [32]) && decide (o2 = [32]))) s) : wpAny (model prog w) A (compareOp .Eq (.ref ga) (.ref gb)) Q E s := by
  refine SeqAt.RcAt.lists (A := A) (e := fun j => match j with | 0 => g1.toList == [32] | _ => g2.toList == [32]) hl hb rfl hu ?_ prog w E Q ?_
  · intro j h1 h2
    have hj : j = 0 ∨ j = 1 := by simp only [List.size_toArray, List.length_cons, List.length_nil] at h1; omega
    rcases hj with rfl | rfl
    · exact eqAt_bytes _ _ _ _
    · exact eqAt_bytes _ _ _ _
  · have e : (List.range (#[Value.bytes g1 t1, Value.bytes g2 t2] : Array Value).size).all (fun j => match j with | 0 => g1.toList == [32] | _ => g2.toList == [32]) = ((g1.toList == [32]) && (g2.toList == [32])) := by
      show (List.range 2).all _ = _
      simp [List.range_succ]
    rw [e, bInts_32 h1, bInts_32 h2]
    exact h
end
section
open PySem PySem.W PyProof.Rows PySem.Calls
end
section
open PySem PySem.W PyProof.Rows PySem.Calls
def nameTab : List (List Int) := [[34, 47, 102, 108, 97, 103, 115, 47, 115, 101, 101, 110, 34], [34, 34], [34, 97, 92, 34, 98, 32, 99, 34], [34, 47, 102, 108, 97, 103, 115, 47, 92, 92, 68, 114, 97, 102, 116, 34], [110, 97, 109, 101], [123, 49, 43, 125, 13, 10, 110], [34, 111, 112, 101, 110], [34, 120, 34, 121]]
def sortTab : List (List Int) := [[112, 114, 105, 118], [83, 72, 65, 82, 69, 68], [34, 65, 108, 108, 34], [115, 111, 109, 101], [34, 34], [123, 52, 43, 125, 13, 10, 112, 114, 105, 118], [97, 108, 108, 50], []]
abbrev gapIs (g : List Int) : Prop := g = [32] ∨ g = [] ∨ g = [32, 32]
namespace PL
def restAt (ks : List Int) (i : Int) (r : List Int) : Prop := 0 ≤ i ∧ ks.drop i.toNat = r ∧ i + r.length = ks.length
section
variable {ks r a b fs w body cont o1 o2 : List Int} {i j c d : Int} {p : Int → Bool}
theorem restAt.zero : restAt ks 0 ks := ⟨Int.le_refl 0, rfl, by omega⟩
theorem restAt.step (h : restAt ks i (a ++ b)) : restAt ks (i + a.length) b := by
  obtain ⟨h0, h1, h2⟩ := h
  simp only [List.length_append] at h2
  refine ⟨by omega, ?_, by omega⟩
  have e : (i + a.length).toNat = i.toNat + a.length := by omega
  rw [e, ← List.drop_drop, h1, List.drop_left]
theorem restAt.one (h : restAt ks i (c :: b)) : restAt ks (i + 1) b := by
  have := restAt.step (a := [c]) (b := b) h
  simpa using this
theorem restAt.peek (h : restAt ks i (c :: b)) : peekZ ks i = c := by
  obtain ⟨h0, h1, h2⟩ := h
  simp only [List.length_cons] at h2
  unfold peekZ
  rw [if_pos (by omega)]
  have hl : i.toNat < ks.length := by omega
  rw [List.drop_eq_getElem_cons hl] at h1
  simp [List.getD, hl, (List.cons.inj h1).1]
theorem restAt.skip (h : restAt ks i r) (os : List Int) : skipB ks i os = (r.take os.length == os) := by unfold skipB; rw [h.2.1]
theorem restAt.skip1 (h : restAt ks i (c :: b)) (d : Int) : skipB ks i [d] = (c == d) := by
  rw [h.skip]
  simp
theorem restAt.run (h : restAt ks i r) : runOf p ks i = r.takeWhile p := by unfold runOf; rw [h.2.1]
theorem tw_pos (h : ∀ x ∈ a, p x = true) : (a ++ b).takeWhile p = a ++ b.takeWhile p := List.takeWhile_append_of_pos h
theorem fig_digs (h : digs fs) : ∀ x ∈ fs, figB x = true := fun x hx => by unfold figB; exact decide_eq_true (h x hx)
theorem astr_digs (h : digs fs) : ∀ x ∈ fs, astrB x = true := fun x hx => by
  have := h x hx
  have : x = 48 ∨ x = 49 ∨ x = 50 ∨ x = 51 ∨ x = 52 ∨ x = 53 ∨ x = 54 ∨ x = 55 ∨ x = 56 ∨ x = 57 := by omega
  rcases this with rfl | rfl | rfl | rfl | rfl | rfl | rfl | rfl | rfl | rfl <;> decide
theorem num_at (h : restAt ks i (fs ++ [41, 32, 120])) (hd : digs fs) : numP ks i = if 0 < fs.length ∧ fs.length ≤ 19 then some (numZ fs, i + fs.length) else none := by
  have e : (fs ++ [41, 32, 120]).takeWhile figB = fs := by rw [tw_pos (fig_digs hd)]; simp [figB]
  unfold numP
  rw [h.run, e]
theorem num_no (h : restAt ks i (c :: b)) (hc : figB c = false) : numP ks i = none := by
  have e : (c :: b).takeWhile figB = [] := by rw [List.takeWhile_cons, hc]; simp
  unfold numP
  rw [h.run, e]
  simp
theorem word_none (h : restAt ks i (c :: b)) (hc : c ≠ 32) : wordP ks i = none := by
  unfold wordP
  rw [h.skip1, if_neg]
  simpa using hc
theorem word_at (h : restAt ks i (32 :: b)) : wordP ks i = astP ks (i + 1) := by
  unfold wordP
  rw [h.skip1, if_pos (by simp)]
theorem ast_run (h : restAt ks i (c :: b)) (h1 : c ≠ 34) (h2 : c ≠ 123) (e : (c :: b).takeWhile astrB = r) : astP ks i = if r.length = 0 then none else some (r, i + r.length) := by
  unfold astP
  rw [h.peek, if_neg (by omega), h.run, e]
theorem ast_no (h : restAt ks i (c :: b)) (h1 : c ≠ 34) (h2 : c ≠ 123) (hc : astrB c = false) : astP ks i = none := by
  rw [ast_run (r := []) h h1 h2 (by rw [List.takeWhile_cons, hc]; simp)]
  rfl
theorem str_quo (h : restAt ks i (34 :: b)) : strP ks i = (qgo b).map fun q => (q.1, i + 1 + q.2) := by
  unfold strP
  rw [h.peek, if_neg (by decide)]
  unfold quoP
  rw [h.skip1, if_pos (by simp)]
  unfold qpos
  rw [h.one.2.1]
  simp
theorem ast_quo (h : restAt ks i (34 :: b)) : astP ks i = (qgo b).map fun q => (q.1, i + 1 + q.2) := by
  unfold astP
  rw [if_pos (.inl h.peek), str_quo h]
theorem ast_lit (h : restAt ks i (123 :: 52 :: 43 :: 125 :: 13 :: 10 :: ([112, 114, 105, 118] ++ b))) : astP ks i = some ([112, 114, 105, 118], i + 10) := by
  have hp : peekZ ks i = 123 := h.peek
  unfold astP
  rw [if_pos (.inr hp)]
  unfold strP
  rw [if_pos hp]
  have h1 : restAt ks (i + 1) (52 :: 43 :: 125 :: 13 :: 10 :: ([112, 114, 105, 118] ++ b))   := h.one
  have e1 : runOf figB ks (i + 1) = [52] := by rw [h1.run]; simp [List.takeWhile_cons, figB]
  unfold litP
  rw [(h.skip1 123), if_pos (by simp), e1, if_pos (by decide)]
  have h2 : restAt ks (i + 1 + 1) (43 :: 125 :: 13 :: 10 :: ([112, 114, 105, 118] ++ b)) := h1.one
  have h3 : restAt ks (i + 1 + 1 + 1) (125 :: 13 :: 10 :: ([112, 114, 105, 118] ++ b)) := h2.one
  have h4 : restAt ks (i + 1 + 1 + 1 + ([125, 13, 10] : List Int).length) ([112, 114, 105, 118] ++ b) := restAt.step (a := [125, 13, 10]) h3
  have e2 : numZ [52] = 4 := by decide
  simp only [List.length_cons, List.length_nil, e2, Nat.zero_add, Int.ofNat_one]
  have e3 : skipB ks (i + 1 + 1) [43] = true := by rw [h2.skip1]; simp
  have e4 : skipB ks (i + 1 + 1 + 1) [125, 13, 10] = true := by rw [h3.skip]; simp
  have h5 : restAt ks (i + 1 + 1 + 1 + 3) ([112, 114, 105, 118] ++ b) := h4
  have e3' : skipB ks (i + 1 + ((1 : Nat) : Int)) [43] = true := e3
  have e4' : skipB ks (i + 1 + ((1 : Nat) : Int) + 1) [125, 13, 10] = true := e4
  have h5' : restAt ks (i + 1 + ((1 : Nat) : Int) + 1 + 3) ([112, 114, 105, 118] ++ b) := h5
  have hl := h5.2.2
  simp only [List.length_append, List.length_cons, List.length_nil] at hl
  first
    | rw [if_pos e3', if_pos e4', if_pos (by push_cast; omega), h5'.2.1]
    | rw [if_pos e3, if_pos e4, if_pos (by omega), h5.2.1]
    | simp only [e3, e4, if_true, h5.2.1, if_pos (show i + 1 + 1 + 1 + 3 + 4 ≤ (ks.length : Int) by omega)]
  refine congrArg some (Prod.ext rfl ?_)
  dsimp only
  push_cast
  omega
end
end PL
end
section
open PySem PySem.W PyProof.Rows PySem.Calls
namespace PL
section
variable {ks r a b fs w body cont o1 o2 : List Int} {i j c d : Int} {p : Int → Bool}
theorem sort_letters (h : isSort w = true) : ∀ x ∈ w, x < 48 ∨ 57 < x := by
  intro x hx
  have key : ∀ s : PySem.Str, (∀ n ∈ s.cps.toList, 58 ≤ n) → s = txt (w.map lowZ) → x < 48 ∨ 57 < x := by
    intro s hs e
    have hm : (lowZ x).toNat ∈ s.cps.toList := by
      rw [e]
      simp only [txt, List.mem_map, List.map_map]
      exact ⟨x, hx, rfl⟩
    have := hs _ hm
    unfold lowZ at this
    split at this <;> omega
  unfold isSort at h
  rw [List.any_eq_true] at h
  obtain ⟨s, hs, e⟩ := h
  have e := eq_of_beq e
  simp only [List.mem_cons, List.not_mem_nil, or_false] at hs
  rcases hs with rfl | rfl | rfl
  · exact key _ (by decide +kernel) e
  · exact key _ (by decide +kernel) e
  · exact key _ (by decide +kernel) e
theorem sort_app (hd : digs fs) (hn : fs ≠ []) : isSort (w ++ fs) = false := by
  cases h : isSort (w ++ fs) with
  | false => rfl
  | true =>
    cases fs with
    | nil => exact absurd rfl hn
    | cons x fs =>
      have h1 := sort_letters h x (by simp)
      have h2 := hd x (List.mem_cons_self ..)
      omega
def tailP (ks : List Int) (q : List Int × Int) : Option (Int × Int) := if isSort q.1 = true then (if skipB ks q.2 [32] = true then numP ks (q.2 + 1) else none) else none
def restP (ks : List Int) (i : Int) : Option (Int × Int) := (wordP ks i).bind (tailP ks)
def goodN (fs : List Int) : Bool := decide (0 < fs.length ∧ fs.length ≤ 19)
def wantN (ks fs : List Int) (b : Bool) : Option (Int × Int) := if (goodN fs && b) = true then some (numZ fs, (ks.length : Int) - 3) else none
theorem wantN_false : wantN ks fs false = none := by unfold wantN; simp
theorem fs_head (hd : digs fs) : ∃ c b, fs ++ [41, 32, 120] = c :: b ∧ c ≠ 32 ∧ c ≠ 34 ∧ c ≠ 123 ∧ ((fs = [] ∧ c = 41) ∨ (48 ≤ c ∧ c ≤ 57)) := by
  cases fs with
  | nil => exact ⟨41, [32, 120], rfl, by decide, by decide, by decide, .inl ⟨rfl, rfl⟩⟩
  | cons x fs =>
    have := hd x (List.mem_cons_self ..)
    exact ⟨x, fs ++ [41, 32, 120], rfl, by omega, by omega, by omega, .inr this⟩
theorem tail_at (h : restAt ks j (o2 ++ fs ++ [41, 32, 120])) (hd : digs fs) (h2 : gapIs o2) : tailP ks (w, j) = wantN ks fs (isSort w && decide (o2 = [32])) := by
  unfold tailP
  cases hs : isSort w with
  | false => rw [Bool.false_and, wantN_false]; simp
  | true =>
    rw [if_pos rfl, Bool.true_and]
    rcases h2 with rfl | rfl | rfl
    · have h' : restAt ks j (32 :: (fs ++ [41, 32, 120])) := by simpa using h
      dsimp only
      rw [h'.skip1, if_pos (by simp), num_at h'.one hd]
      have hl := h'.2.2
      simp only [List.length_cons, List.length_append, List.length_nil] at hl
      have e : j + 1 + (fs.length : Int) = (ks.length : Int) - 3 := by omega
      rw [e]
      unfold wantN goodN
      simp
    · obtain ⟨c, b, e, hc, _⟩ := fs_head hd
      have h' : restAt ks j (c :: b) := by rw [← e]; simpa using h
      dsimp only
      rw [h'.skip1, if_neg (by simpa using hc)]
      rw [show decide (([] : List Int) = [32]) = false from rfl, wantN_false]
    · have h' : restAt ks j (32 :: 32 :: (fs ++ [41, 32, 120])) := by simpa using h
      dsimp only
      rw [h'.skip1, if_pos (by simp), num_no h'.one (by decide)]
      rw [show decide (([32, 32] : List Int) = [32]) = false from rfl, wantN_false]
/-- behind the blank: a bare word -/
theorem bare_at (h : restAt ks j (w ++ o2 ++ fs ++ [41, 32, 120])) (hd : digs fs) (h2 : gapIs o2) (hw : ∀ x ∈ w, astrB x = true) (hn : w ≠ []) (hq : w.head? ≠ some 34 ∧ w.head? ≠ some 123) :
    ((astP ks j).bind (tailP ks)) = wantN ks fs (isSort w && decide (o2 = [32])) := by
  obtain ⟨c, w', rfl⟩ : ∃ c w', w = c :: w' := by
    cases w with
    | nil => exact absurd rfl hn
    | cons c w' => exact ⟨c, w', rfl⟩
  have hc1 : c ≠ 34 := fun e => hq.1 (by rw [e]; rfl)
  have hc2 : c ≠ 123 := fun e => hq.2 (by rw [e]; rfl)
  have h' : restAt ks j (c :: (w' ++ o2 ++ fs ++ [41, 32, 120])) := by simpa using h
  have gap : ∀ o, o2 = 32 :: o → ((astP ks j).bind (tailP ks)) = wantN ks fs (isSort (c :: w') && decide (o2 = [32])) := by
    intro o eo
    have e : (c :: (w' ++ o2 ++ fs ++ [41, 32, 120])).takeWhile astrB = c :: w' := by
      have : c :: (w' ++ o2 ++ fs ++ [41, 32, 120]) = (c :: w') ++ (32 :: (o ++ fs ++ [41, 32, 120])) := by rw [eo]; simp
      rw [this, tw_pos hw, List.takeWhile_cons, if_neg (by decide)]
      simp
    rw [ast_run h' hc1 hc2 e, if_neg (by simp)]
    show tailP ks _ = _
    refine tail_at ?_ hd h2
    have := restAt.step (a := c :: w') (b := o2 ++ fs ++ [41, 32, 120]) (by simpa using h)
    exact this
  rcases h2 with rfl | rfl | rfl
  · exact gap [] rfl
  · have e : (c :: (w' ++ [] ++ fs ++ [41, 32, 120])).takeWhile astrB = c :: w' ++ fs := by
      have : c :: (w' ++ [] ++ fs ++ [41, 32, 120]) = (c :: w' ++ fs) ++ (41 :: [32, 120]) := by simp
      rw [this, tw_pos (fun x hx => (List.mem_append.mp hx).elim (hw x) (astr_digs hd x)), List.takeWhile_cons, if_neg (by decide)]
      simp
    rw [ast_run h' hc1 hc2 e, if_neg (by simp)]
    show tailP ks _ = _
    rw [show decide (([] : List Int) = [32]) = false from rfl, Bool.and_false, wantN_false]
    by_cases hf : fs = []
    · subst hf
      have h3 : restAt ks (j + ((c :: w' ++ []).length : Int)) (41 :: [32, 120]) := restAt.step (a := c :: w' ++ []) (by simpa using h)
      unfold tailP
      dsimp only
      rw [h3.skip1]
      simp
    · unfold tailP
      dsimp only
      rw [sort_app (w := c :: w') hd hf]
      simp
  · exact gap [32] rfl
/-- behind the blank: no word at all -/
theorem empty_at (h : restAt ks j (o2 ++ fs ++ [41, 32, 120])) (hd : digs fs) (h2 : gapIs o2) : ((astP ks j).bind (tailP ks)) = none := by
  rcases h2 with rfl | rfl | rfl
  · have h' : restAt ks j (32 :: (fs ++ [41, 32, 120])) := by simpa using h
    rw [ast_no h' (by decide) (by decide) (by decide)]
    rfl
  · by_cases hf : fs = []
    · subst hf
      have h' : restAt ks j (41 :: [32, 120]) := by simpa using h
      rw [ast_no h' (by decide) (by decide) (by decide)]
      rfl
    · have := bare_at (w := fs) (o2 := []) (fs := []) (ks := ks) (j := j) (by simpa using h) (fun x hx => nomatch hx) (.inr (.inl rfl)) (astr_digs hd) hf (by
        cases fs with
        | nil => exact absurd rfl hf
        | cons x fs =>
          have := hd x (List.mem_cons_self ..)
          simp only [List.head?_cons, ne_eq, Option.some.injEq]
          omega)
      rw [this]
      rw [show decide (([] : List Int) = [32]) = false from rfl, Bool.and_false, wantN_false]
  · have h' : restAt ks j (32 :: 32 :: (fs ++ [41, 32, 120])) := by simpa using h
    rw [ast_no h' (by decide) (by decide) (by decide)]
    rfl
/-- behind the blank: a quoted word -/
theorem quo_at (h : restAt ks j (34 :: (body ++ (o2 ++ fs ++ [41, 32, 120])))) (hd : digs fs) (h2 : gapIs o2) (hq : ∀ r, qgo (body ++ r) = some (cont, (body.length : Int))) :
    ((astP ks j).bind (tailP ks)) = wantN ks fs (isSort cont && decide (o2 = [32])) := by
  rw [ast_quo h, hq]
  exact tail_at (restAt.step (a := body) h.one) hd h2
theorem lit_at (h : restAt ks j (123 :: 52 :: 43 :: 125 :: 13 :: 10 :: ([112, 114, 105, 118] ++ (o2 ++ fs ++ [41, 32, 120])))) (hd : digs fs) (h2 : gapIs o2) :
    ((astP ks j).bind (tailP ks)) = wantN ks fs (decide (o2 = [32])) := by
  rw [ast_lit h]
  show tailP ks _ = _
  have e : restAt ks (j + 10) (o2 ++ fs ++ [41, 32, 120]) := by
    have := restAt.step (a := [123, 52, 43, 125, 13, 10, 112, 114, 105, 118]) (b := o2 ++ fs ++ [41, 32, 120]) (i := j) (ks := ks) (by simpa using h)
    simpa using this
  rw [tail_at e hd h2, show isSort [112, 114, 105, 118] = true by decide +kernel, Bool.true_and]
end
end PL
end
section
open PySem PySem.W PyProof.Rows PySem.Calls
namespace PL
section
variable {ks r a b fs w body cont o1 o2 : List Int} {i j c d : Int} {p : Int → Bool}
def okSort (so : Int) : Bool := [0, 1, 2, 5].any fun x => x == so
theorem sort_at {so : Int} (h : restAt ks j (sortTab.getD so.toNat [] ++ o2 ++ fs ++ [41, 32, 120])) (s0 : 0 ≤ so) (s1 : so < 8) (hd : digs fs) (h2 : gapIs o2) :
    ((astP ks j).bind (tailP ks)) = wantN ks fs (okSort so && decide (o2 = [32])) := by
  have : so = 0 ∨ so = 1 ∨ so = 2 ∨ so = 3 ∨ so = 4 ∨ so = 5 ∨ so = 6 ∨ so = 7 := by omega
  rcases this with rfl | rfl | rfl | rfl | rfl | rfl | rfl | rfl
  · rw [bare_at (w := [112, 114, 105, 118]) h hd h2 (by decide) (by decide) (by decide), show isSort [112, 114, 105, 118] = okSort 0 by decide +kernel]
  · rw [bare_at (w := [83, 72, 65, 82, 69, 68]) h hd h2 (by decide) (by decide) (by decide), show isSort [83, 72, 65, 82, 69, 68] = okSort 1 by decide +kernel]
  · have h' : restAt ks j (34 :: ([65, 108, 108, 34] ++ (o2 ++ fs ++ [41, 32, 120]))) := by simpa [sortTab] using h
    rw [quo_at (cont := [65, 108, 108]) h' hd h2 (fun r => by simp [qgo_cons]), show isSort [65, 108, 108] = okSort 2 by decide +kernel]
  · rw [bare_at (w := [115, 111, 109, 101]) h hd h2 (by decide) (by decide) (by decide), show isSort [115, 111, 109, 101] = okSort 3 by decide +kernel]
  · have h' : restAt ks j (34 :: ([34] ++ (o2 ++ fs ++ [41, 32, 120]))) := by simpa [sortTab] using h
    rw [quo_at (cont := []) h' hd h2 (fun r => by simp [qgo_cons]), show isSort [] = okSort 4 by decide +kernel]
  · have h' : restAt ks j (123 :: 52 :: 43 :: 125 :: 13 :: 10 :: ([112, 114, 105, 118] ++ (o2 ++ fs ++ [41, 32, 120]))) := by simpa [sortTab] using h
    rw [lit_at h' hd h2, show okSort 5 = true by decide, Bool.true_and]
  · rw [bare_at (w := [97, 108, 108, 50]) h hd h2 (by decide) (by decide) (by decide), show isSort [97, 108, 108, 50] = okSort 6 by decide +kernel]
  · have h' : restAt ks j (o2 ++ fs ++ [41, 32, 120]) := by simpa [sortTab] using h
    rw [empty_at h' hd h2, show okSort 7 = false by decide, Bool.false_and, wantN_false]
theorem restP_none (h : restAt ks i (c :: b)) (hc : c ≠ 32) : restP ks i = none := by unfold restP; rw [word_none h hc]; rfl
theorem restP_at (h : restAt ks i (32 :: b)) : restP ks i = (astP ks (i + 1)).bind (tailP ks) := by unfold restP; rw [word_at h]
theorem rest_entry {so : Int} (h : restAt ks i (o1 ++ sortTab.getD so.toNat [] ++ o2 ++ fs ++ [41, 32, 120])) (s0 : 0 ≤ so) (s1 : so < 8) (hd : digs fs) (h1 : gapIs o1) (h2 : gapIs o2) :
    restP ks i = wantN ks fs (okSort so && (decide (o1 = [32]) && decide (o2 = [32]))) := by
  rcases h1 with rfl | rfl | rfl
  · have h' : restAt ks i (32 :: (sortTab.getD so.toNat [] ++ o2 ++ fs ++ [41, 32, 120])) := by simpa using h
    rw [restP_at h', sort_at h'.one s0 s1 hd h2, show decide (([32] : List Int) = [32]) = true from rfl, Bool.true_and]
  · rw [show decide (([] : List Int) = [32]) = false from rfl, Bool.false_and, Bool.and_false, wantN_false]
    have : so = 0 ∨ so = 1 ∨ so = 2 ∨ so = 3 ∨ so = 4 ∨ so = 5 ∨ so = 6 ∨ so = 7 := by omega
    rcases this with rfl | rfl | rfl | rfl | rfl | rfl | rfl | rfl
    · exact restP_none (c := 112) (b := [114, 105, 118] ++ o2 ++ fs ++ [41, 32, 120]) (by simpa [sortTab] using h) (by decide)
    · exact restP_none (c := 83) (b := [72, 65, 82, 69, 68] ++ o2 ++ fs ++ [41, 32, 120]) (by simpa [sortTab] using h) (by decide)
    · exact restP_none (c := 34) (b := [65, 108, 108, 34] ++ o2 ++ fs ++ [41, 32, 120]) (by simpa [sortTab] using h) (by decide)
    · exact restP_none (c := 115) (b := [111, 109, 101] ++ o2 ++ fs ++ [41, 32, 120]) (by simpa [sortTab] using h) (by decide)
    · exact restP_none (c := 34) (b := [34] ++ o2 ++ fs ++ [41, 32, 120]) (by simpa [sortTab] using h) (by decide)
    · exact restP_none (c := 123) (b := [52, 43, 125, 13, 10, 112, 114, 105, 118] ++ o2 ++ fs ++ [41, 32, 120]) (by simpa [sortTab] using h) (by decide)
    · exact restP_none (c := 97) (b := [108, 108, 50] ++ o2 ++ fs ++ [41, 32, 120]) (by simpa [sortTab] using h) (by decide)
    · rcases h2 with rfl | rfl | rfl
      · have h' : restAt ks i (32 :: (fs ++ [41, 32, 120])) := by simpa [sortTab] using h
        rw [restP_at h']
        exact empty_at (o2 := []) h'.one hd (.inr (.inl rfl))
      · obtain ⟨c, b, e, hc, _⟩ := fs_head hd
        exact restP_none (c := c) (b := b) (by rw [← e]; simpa [sortTab] using h) hc
      · have h' : restAt ks i (32 :: (32 :: (fs ++ [41, 32, 120]))) := by simpa [sortTab] using h
        rw [restP_at h']
        exact empty_at (o2 := [32]) h'.one hd (.inl rfl)
  · rw [show decide (([32, 32] : List Int) = [32]) = false from rfl, Bool.false_and, Bool.and_false, wantN_false]
    have h' : restAt ks i (32 :: 32 :: (sortTab.getD so.toNat [] ++ o2 ++ fs ++ [41, 32, 120])) := by simpa using h
    rw [restP_at h', ast_no h'.one (by decide) (by decide) (by decide)]
    rfl
theorem mod_str (h0 : skipB ks 0 [32] = true) (h1 : peekZ ks 1 = 34) (e : strP ks 1 = some (cont, i)) : modP ks 0 = restP ks i := by
  unfold modP
  rw [if_pos h0, if_pos (show peekZ ks (0 + 1) = 34 from h1), show strP ks (0 + 1) = some (cont, i) from e]
  show (match wordP ks i with | none => none | some q => tailP ks q) = (wordP ks i).bind (tailP ks)
  cases wordP ks i <;> rfl
theorem mod_quo (h : restAt ks 0 (32 :: 34 :: (body ++ r))) (hq : qgo (body ++ r) = some (cont, (body.length : Int))) : modP ks 0 = restP ks (1 + 1 + body.length) := by
  have h1 : restAt ks (0 + 1) (34 :: (body ++ r)) := h.one
  have h1' : restAt ks 1 (34 :: (body ++ r)) := by simpa using h1
  refine mod_str (cont := cont) (by rw [h.skip1]; simp) h1'.peek ?_
  rw [str_quo h1', hq]
  rfl
theorem mod_quo0 (h : restAt ks 0 (32 :: 34 :: r)) (hq : qgo r = none) : modP ks 0 = none := by
  have h1' : restAt ks 1 (34 :: r) := by simpa using h.one
  unfold modP
  rw [if_pos (by rw [h.skip1]; simp), if_pos (show peekZ ks (0 + 1) = 34 from h1'.peek), show strP ks (0 + 1) = none by rw [show (0 : Int) + 1 = 1 from rfl, str_quo h1', hq]; rfl]
theorem mod_num (h : restAt ks 0 (32 :: r)) (hp : peekZ ks 1 ≠ 34) : modP ks 0 = numP ks 1 := by
  unfold modP
  rw [if_pos (by rw [h.skip1]; simp), if_neg (show ¬ peekZ ks (0 + 1) = 34 from hp)]
  rfl
def plainC (c : Int) : Bool := !decide (c = 34) && !decide (c = 92) && !decide (c < 1 ∨ 127 < c ∨ c = 13 ∨ c = 10)
theorem qgo_plain : ∀ (a : List Int) {b : List Int}, (∀ x ∈ a, plainC x = true) → qgo (a ++ b) = (qgo b).map fun q => (a ++ q.1, (a.length : Int) + q.2)
  | [], b, _ => by cases h : qgo b <;> simp [h]
  | c :: a, b, h => by
    have hc := h c (List.mem_cons_self ..)
    simp only [plainC, Bool.and_eq_true, Bool.not_eq_true', decide_eq_false_iff_not] at hc
    rw [List.cons_append, qgo_cons, if_neg hc.1.1, if_neg hc.1.2, if_neg hc.2, qgo_plain a fun x hx => h x (List.mem_cons_of_mem _ hx)]
    cases qgo b with
    | none => rfl
    | some q =>
      simp only [Option.map_some, List.cons_append, List.length_cons, Option.some.injEq, Prod.mk.injEq, true_and]
      push_cast
      omega
theorem plain_digs (h : digs fs) : ∀ x ∈ fs, plainC x = true := fun x hx => by
  have := h x hx
  simp only [plainC, Bool.and_eq_true, Bool.not_eq_true', decide_eq_false_iff_not]
  omega
theorem plain_gap {g : List Int} (h : gapIs g) : ∀ x ∈ g, plainC x = true := by rcases h with rfl | rfl | rfl <;> decide
theorem qgo_run_off (h : ∀ x ∈ a, plainC x = true) : qgo a = none := by
  have := qgo_plain a (b := []) h
  rw [List.append_nil] at this
  rw [this]
  simp [qgo]
theorem num_head {c : Int} (h : restAt ks 0 (32 :: c :: b)) (h1 : c ≠ 34) (h2 : figB c = false) : modP ks 0 = none := by
  have h' : restAt ks 1 (c :: b) := by simpa using h.one
  rw [mod_num h (by rw [h'.peek]; exact h1), num_no h' h2]
end
end PL
open PL
theorem plain_none {fs : List Int} (h : digs fs) (_hl : fs.length ≤ 21) : modP (32 :: fs ++ [41, 32, 120]) 0 = if decide (0 < fs.length ∧ fs.length ≤ 19) = true then some (numZ fs, (fs.length : Int) + 1) else none := by
  have hz : restAt (32 :: fs ++ [41, 32, 120]) 0 (32 :: (fs ++ [41, 32, 120])) := restAt.zero
  have h1 : restAt (32 :: fs ++ [41, 32, 120]) 1 (fs ++ [41, 32, 120]) := by simpa using hz.one
  obtain ⟨c, b, e, hc, hc2, _⟩ := fs_head h
  have hp : peekZ (32 :: fs ++ [41, 32, 120]) 1 = c := by
    have h1' := h1
    rw [e] at h1'
    exact h1'.peek
  rw [mod_num hz (by rw [hp]; exact hc2), num_at h1 h]
  simp only [decide_eq_true_eq]
  rw [Int.add_comm]
theorem plain_entry {fs o1 o2 : List Int} {na so : Int} {r : Bool} (hr : r = decide (0 < fs.length ∧ fs.length ≤ 19)) (n0 : 0 ≤ na) (n1 : na < 8) (s0 : 0 ≤ so) (s1 : so < 8) (h1 : gapIs o1) (h2 : gapIs o2) (hd : digs fs) (_hl : fs.length ≤ 21) :
    modP (32 :: (nameTab.getD na.toNat [] ++ o1 ++ sortTab.getD so.toNat [] ++ o2 ++ fs) ++ [41, 32, 120]) 0 =
      if (r && decide (na < 4) && ([0, 1, 2, 5].any fun x => x == so) && (decide (o1 = [32]) && decide (o2 = [32]))) = true then some (numZ fs, ((nameTab.getD na.toNat [] ++ o1 ++ sortTab.getD so.toNat [] ++ o2 ++ fs).length : Int) + 1) else none := by
  generalize hks : 32 :: (nameTab.getD na.toNat [] ++ o1 ++ sortTab.getD so.toNat [] ++ o2 ++ fs) ++ [41, 32, 120] = ks
  have hlen : ((nameTab.getD na.toNat [] ++ o1 ++ sortTab.getD so.toNat [] ++ o2 ++ fs).length : Int) + 1 = (ks.length : Int) - 3 := by
    rw [← hks]
    simp only [List.length_cons, List.length_append, List.length_nil]
    omega
  rw [hlen]
  have hz : restAt ks 0 (32 :: (nameTab.getD na.toNat [] ++ o1 ++ sortTab.getD so.toNat [] ++ o2 ++ fs) ++ [41, 32, 120]) := by rw [hks]; exact restAt.zero
  clear hks hlen
  suffices hs : modP ks 0 = wantN ks fs (decide (na < 4) && (okSort so && (decide (o1 = [32]) && decide (o2 = [32])))) by
    rw [hs]
    unfold wantN
    rw [show goodN fs = r from hr.symm]
    simp only [Bool.and_assoc]
    rfl
  have quoted : ∀ (body cont : List Int), nameTab.getD na.toNat [] = 34 :: body → (∀ r, qgo (body ++ r) = some (cont, (body.length : Int))) → na < 4 → modP ks 0 = wantN ks fs (decide (na < 4) && (okSort so && (decide (o1 = [32]) && decide (o2 = [32])))) := by
    intro body cont e hq hn
    rw [e] at hz
    have hz' : restAt ks 0 (32 :: 34 :: (body ++ (o1 ++ sortTab.getD so.toNat [] ++ o2 ++ fs ++ [41, 32, 120]))) := by simpa using hz
    rw [mod_quo hz' (hq _), decide_eq_true hn, Bool.true_and]
    refine rest_entry ?_ s0 s1 hd h1 h2
    have h3 : restAt ks (1 + 1) (body ++ (o1 ++ sortTab.getD so.toNat [] ++ o2 ++ fs ++ [41, 32, 120])) := by simpa using hz'.one.one
    exact h3.step
  have wrong : 4 ≤ na → modP ks 0 = none → modP ks 0 = wantN ks fs (decide (na < 4) && (okSort so && (decide (o1 = [32]) && decide (o2 = [32])))) := by
    intro hn e
    rw [e, decide_eq_false (by omega), Bool.false_and, wantN_false]
  have : na = 0 ∨ na = 1 ∨ na = 2 ∨ na = 3 ∨ na = 4 ∨ na = 5 ∨ na = 6 ∨ na = 7 := by omega
  rcases this with rfl | rfl | rfl | rfl | rfl | rfl | rfl | rfl
  · exact quoted [47, 102, 108, 97, 103, 115, 47, 115, 101, 101, 110, 34] [47, 102, 108, 97, 103, 115, 47, 115, 101, 101, 110] rfl (fun r => by simp [qgo_cons]) (by decide)
  · exact quoted [34] [] rfl (fun r => by simp [qgo_cons]) (by decide)
  · exact quoted [97, 92, 34, 98, 32, 99, 34] [97, 34, 98, 32, 99] rfl (fun r => by simp [qgo_cons]) (by decide)
  · exact quoted [47, 102, 108, 97, 103, 115, 47, 92, 92, 68, 114, 97, 102, 116, 34] [47, 102, 108, 97, 103, 115, 47, 92, 68, 114, 97, 102, 116] rfl (fun r => by simp [qgo_cons]) (by decide)
  · refine wrong (by decide) (num_head (c := 110) (b := [97, 109, 101] ++ o1 ++ sortTab.getD so.toNat [] ++ o2 ++ fs ++ [41, 32, 120]) (by simpa [nameTab] using hz) (by decide) (by decide))
  · refine wrong (by decide) (num_head (c := 123) (b := [49, 43, 125, 13, 10, 110] ++ o1 ++ sortTab.getD so.toNat [] ++ o2 ++ fs ++ [41, 32, 120]) (by simpa [nameTab] using hz) (by decide) (by decide))
  · refine wrong (by decide) ?_
    have off : ∀ s : List Int, sortTab.getD so.toNat [] = s → (∀ x ∈ s, plainC x = true) → modP ks 0 = none := by
      intro s es hs
      rw [es] at hz
      refine mod_quo0 (r := [111, 112, 101, 110] ++ o1 ++ s ++ o2 ++ fs ++ [41, 32, 120]) (by simpa [nameTab] using hz) (qgo_run_off ?_)
      intro x hx
      simp only [List.mem_append] at hx
      rcases hx with ((((hx | hx) | hx) | hx) | hx) | hx
      · exact (by decide : ∀ x ∈ ([111, 112, 101, 110] : List Int), plainC x = true) x hx
      · exact plain_gap h1 x hx
      · exact hs x hx
      · exact plain_gap h2 x hx
      · exact plain_digs hd x hx
      · exact (by decide : ∀ x ∈ ([41, 32, 120] : List Int), plainC x = true) x hx
    have pre : ∀ x ∈ [111, 112, 101, 110] ++ o1, plainC x = true := by
      intro x hx
      rcases List.mem_append.mp hx with hx | hx
      · exact (by decide : ∀ x ∈ ([111, 112, 101, 110] : List Int), plainC x = true) x hx
      · exact plain_gap h1 x hx
    have clos : ∀ (c : Int) (s : List Int), sortTab.getD so.toNat [] = 34 :: c :: s → c ≠ 32 → modP ks 0 = none := by
      intro c s es hc
      rw [es] at hz
      have hz' : restAt ks 0 (32 :: 34 :: (([111, 112, 101, 110] ++ o1 ++ [34]) ++ (c :: (s ++ o2 ++ fs ++ [41, 32, 120])))) := by simpa [nameTab] using hz
      rw [mod_quo (cont := [111, 112, 101, 110] ++ o1) hz' (by
        rw [List.append_assoc, qgo_plain _ pre, List.singleton_append, qgo_cons, if_pos rfl]
        simp)]
      have h3 : restAt ks (1 + 1) (([111, 112, 101, 110] ++ o1 ++ [34]) ++ (c :: (s ++ o2 ++ fs ++ [41, 32, 120]))) := by simpa using hz'.one.one
      exact restP_none h3.step hc
    have : so = 0 ∨ so = 1 ∨ so = 2 ∨ so = 3 ∨ so = 4 ∨ so = 5 ∨ so = 6 ∨ so = 7 := by omega
    rcases this with rfl | rfl | rfl | rfl | rfl | rfl | rfl | rfl
    · exact off [112, 114, 105, 118] rfl (by decide)
    · exact off [83, 72, 65, 82, 69, 68] rfl (by decide)
    · exact clos 65 [108, 108, 34] rfl (by decide)
    · exact off [115, 111, 109, 101] rfl (by decide)
    · exact clos 34 [] rfl (by decide)
    · refine mod_quo0 (r := ([111, 112, 101, 110] ++ o1 ++ [123, 52, 43, 125]) ++ (13 :: ([10, 112, 114, 105, 118] ++ o2 ++ fs ++ [41, 32, 120]))) (by simpa [nameTab, sortTab] using hz) ?_
      rw [qgo_plain _ fun x hx => (List.mem_append.mp hx).elim (pre x) fun hx => (by decide : ∀ x ∈ ([123, 52, 43, 125] : List Int), plainC x = true) x hx]
      rw [qgo_cons, if_neg (by decide), if_neg (by decide), if_pos (by decide)]
      rfl
    · exact off [97, 108, 108, 50] rfl (by decide)
    · exact off [] rfl (by decide)
  · refine wrong (by decide) ?_
    have hz' : restAt ks 0 (32 :: 34 :: ([120, 34] ++ (121 :: (o1 ++ sortTab.getD so.toNat [] ++ o2 ++ fs ++ [41, 32, 120])))) := by simpa [nameTab] using hz
    rw [mod_quo (cont := [120]) hz' (by simp [qgo_cons])]
    have h3 : restAt ks (1 + 1) ([120, 34] ++ (121 :: (o1 ++ sortTab.getD so.toNat [] ++ o2 ++ fs ++ [41, 32, 120]))) := by simpa using hz'.one.one
    exact restP_none h3.step (by decide)
end
section
open PySem PySem.W PyProof.Rows PySem.Calls
theorem figs_at {prog : Program} {w : World} {A : Around} {E : Value → Shared → Prop} {s : Shared} {value slice : PySem.Expr} {t : Addr} {vs : List Value} {k : Int} {u : Tok} {Q : Value → Shared → Prop} (ht : IsTup s.heap t vs.toArray) (hb : IntsAre vs [1, 3, 19, 20, 21, 18, 0])
    (h0 : 0 ≤ k) (h1 : k < 7) (h : ∀ v u', 0 ≤ v → v ≤ 21 → Q (.int v u') s)
    (hs : subscripted slice false (.ref t) (.int k u) = operate [.ref t, .int k u] (getItem (.ref t) (.int k u))) : wpAny (model prog w) A (subscriptTail value slice (.ref t) (.int k u)) Q E s := by
  have hlen := hb.length
  simp only [List.length_cons, List.length_nil] at hlen
  have hk : k.toNat < vs.length := by omega
  have hx : vs[k.toNat]? = some vs[k.toNat] := List.getElem?_eq_getElem hk
  obtain ⟨n, u', e1, e2⟩ := hb.at _ _ hx
  refine item_tupleT ht (by omega) (by omega) (j := k.toNat) ?_ hx ?_ hs
  · exact seqIndex_of h0 (by omega)
  · rw [e1]
    have e3 := List.mem_of_getElem? e2
    simp only [List.mem_cons, List.not_mem_nil, or_false] at e3
    exact h n u' (by omega) (by omega)
theorem figs_small {v : Int} (h0 : 0 ≤ v) (h1 : v ≤ 21) : Builtin.Range.small 0 v 1 = true := small_one (by omega) (by omega) (by omega) (by omega)
theorem figs_size {v : Int} (h0 : 0 ≤ v) : Builtin.Range.rangeSize 0 v 1 = (v.toNat : Int) := by
  simp only [Builtin.Range.rangeSize]
  split <;> omega
theorem figs_fits {v : Int} (h0 : 0 ≤ v) (h1 : v ≤ 21) : v.toNat ≤ sizeLine := by rw [sizeLine_eq]; omega
theorem digs_snoc {bs : List (Array UInt8)} (h : ∀ b ∈ bs, ∃ d, KBw.bInts b = [d] ∧ 48 ≤ d ∧ d ≤ 57) {k : Int} (h0 : 0 ≤ k) (h1 : k < 10) : ∀ b ∈ bs ++ [byteArr [48 + k]], ∃ d, KBw.bInts b = [d] ∧ 48 ≤ d ∧ d ≤ 57 := by
  intro b hb
  rcases List.mem_append.mp hb with hb | hb
  · exact h b hb
  · rw [List.mem_singleton.mp hb]
    refine ⟨48 + k, ?_, by omega, by omega⟩
    show [((48 + k).toNat.toUInt8.toNat : Int)] = [48 + k]
    have : (48 + k).toNat.toUInt8.toNat = (48 + k).toNat := by
      show (UInt8.ofNat (48 + k).toNat).toNat = _
      rw [UInt8.toNat_ofNat']
      omega
    rw [this]
    congr 1
    omega
theorem figs_flat {bs : List (Array UInt8)} (h : ∀ b ∈ bs, ∃ d, KBw.bInts b = [d] ∧ 48 ≤ d ∧ d ≤ 57) : (bs.map KBw.bInts).flatten.length = bs.length ∧ digs (bs.map KBw.bInts).flatten := by
  induction bs with
  | nil => exact ⟨rfl, fun x hx => nomatch hx⟩
  | cons b bs ih =>
    obtain ⟨d, e, h0, h1⟩ := h b (List.mem_cons_self ..)
    obtain ⟨i1, i2⟩ := ih fun c hc => h c (List.mem_cons_of_mem _ hc)
    rw [List.map_cons, List.flatten_cons, e]
    refine ⟨by simp [i1], ?_⟩
    intro x hx
    rcases List.mem_append.mp hx with hx | hx
    · rw [List.mem_singleton.mp hx]; exact ⟨h0, h1⟩
    · exact i2 x hx
theorem figs_join {ys : List Value} {bs : List (Array UInt8)} (hb : BJ.ByArr ys bs) (h : ∀ b ∈ bs, ∃ d, KBw.bInts b = [d] ∧ 48 ≤ d ∧ d ≤ 57) {v : Int} (hl : ys.length = v.toNat) (hv : v ≤ 21) :
    (Builtin.Bytes.tooLong (bs.foldl (· + ·.size) ((#[] : Array UInt8).size * (bs.length - 1)))) = false ∧ (Builtin.Bytes.joined #[] bs).size ≤ sizeLine ∧ digs (KBw.bInts (Builtin.Bytes.joined #[] bs)) ∧ (KBw.bInts (Builtin.Bytes.joined #[] bs)).length ≤ 21 := by
  have hbl := hb.length
  obtain ⟨f1, f2⟩ := figs_flat h
  have e1 : ∀ (l : List (Array UInt8)) (acc : Nat), (∀ b ∈ l, ∃ d, KBw.bInts b = [d] ∧ 48 ≤ d ∧ d ≤ 57) → l.foldl (· + ·.size) acc = acc + l.length := by
    intro l
    induction l with
    | nil => intro acc _; simp
    | cons b l ih =>
      intro acc hl
      obtain ⟨d, e, _⟩ := hl b (List.mem_cons_self ..)
      have : b.size = 1 := by rw [← KBw.ints_length, e]; rfl
      rw [List.foldl_cons, ih _ fun c hc => hl c (List.mem_cons_of_mem _ hc), this, List.length_cons]
      omega
  have e2 : (KBw.bInts (Builtin.Bytes.joined #[] bs)).length = bs.length := by rw [joined_ints]; exact f1
  refine ⟨KBy.tooLong_not ?_, ?_, ?_, ?_⟩
  · rw [e1 bs _ h]; simp only [Array.size_empty]; omega
  · rw [← KBw.ints_length, e2, sizeLine_eq]; omega
  · rw [joined_ints]; exact f2
  · rw [e2]; omega
theorem fr_gen {h₀ h : Heap} {L : Addr} {m : PySem.Str → Option Value} (F : Fr h₀ L h m) (ps : List (PySem.Str × Value)) (hk : ∀ p ∈ ps, m p.1 = some p.2) : ∃ mb, Fr h₀ L h mb ∧ ∀ p ∈ ps, mb p.1 = some p.2 := ⟨m, F, hk⟩
/-- the names that a turn of the law's loop stores -/
def stL : List PySem.Str := ["turn", "turns", "has_entry", "figures", "is_right", "worth", "code", "name", "sort", "gaps", "text", "octets", "wire", "heard"].map PySem.Str.ofString
theorem stage_M {σ : Type} {prog : Program} {w : World} {A : Around} {E : Value → Shared → Prop} {s : Shared} {env : Env} {st : Stmt} {Q : Flow → Shared → Prop} {h₀ : Heap} {L : Addr} (mb : PySem.Str → Option Value) (Led : σ → List (Addr × Obj)) (ps : σ → List (PySem.Str × Value)) (P : σ → Prop)
    (h : wpAny (model prog w) A (exec st env) (StagePost h₀ L s Led ps stL mb P) E s)
    (k : ∀ c (u : PySem.Str → Option Value) h tk, P c → Fr h₀ L h (kstB (fun z => if stL.contains z then u z else mb z) (ps c)) → News h₀ L h (Led c) → Q .next { s with heap := h, toks := tk }) : wpN (model prog w) A (exec st env) Q E s := by
  refine wpN_of (wpAny_mono h (fun f s' hp => ?_) fun _ _ x => x)
  obtain ⟨rfl, c, h', tk', m', news', rfl, F, N, hn, h1, h2, hp⟩ := hp
  exact k c m' h' tk' hp (ksw_fr h1 h2 F) (fun p hp => N p (hn p hp))
theorem kst_out {rest : PySem.Str → Option Value} {z : PySem.Str} : ∀ {ps : List (PySem.Str × Value)}, (∀ p ∈ ps, z ≠ p.1) → kstB rest ps z = rest z
  | [], _ => rfl
  | p :: r, h => by
    show (if z = p.1 then some p.2 else kstB rest r z) = rest z
    rw [if_neg (h p (List.mem_cons_self ..)), kst_out fun q hq => h q (List.mem_cons_of_mem _ hq)]
theorem out_ne {z : PySem.Str} (hz : stL.contains z = false) (y : PySem.Str) (hy : stL.contains y = true := by decide +kernel) : z ≠ y := by
  rintro rfl
  rw [hz] at hy
  cases hy
theorem ch_step {z x : PySem.Str} {v : Option Value} {r : Option Value} {q : Option Value} (h : z ≠ x) (e : r = q) : (if z = x then v else r) = q := by rw [if_neg h]; exact e
theorem ch_base {z : PySem.Str} {u mb : PySem.Str → Option Value} (hz : stL.contains z = false) : (fun z => if stL.contains z then u z else mb z) z = mb z := by
  show (if stL.contains z = true then u z else mb z) = mb z
  rw [if_neg (by rw [hz]; exact Bool.false_ne_true)]
theorem ch_kst {z : PySem.Str} {rest : PySem.Str → Option Value} {ps : List (PySem.Str × Value)} {q : Option Value} (h : ∀ p ∈ ps, z ≠ p.1) (e : rest z = q) : kstB rest ps z = q := (kst_out h).trans e
theorem stage_W {σ : Type} {prog : Program} {w : World} {A : Around} {E : Value → Shared → Prop} {s : Shared} {env : Env} {st : Stmt} {Q : Flow → Shared → Prop} {h₀ : Heap} {L : Addr} (mb : PySem.Str → Option Value) (Led : σ → List (Addr × Obj)) (ps : σ → List (PySem.Str × Value)) (P : σ → Prop)
    (h : wpN (model prog w) A (exec st env) (StagePost h₀ L s Led ps stL mb P) E s)
    (k : ∀ c (u : PySem.Str → Option Value) h tk, P c → Fr h₀ L h (kstB (fun z => if stL.contains z then u z else mb z) (ps c)) → News h₀ L h (Led c) → Q .next { s with heap := h, toks := tk }) : wpN (model prog w) A (exec st env) Q E s := by
  refine wpN_mono h (fun f s' hp => ?_) fun _ _ x => x
  obtain ⟨rfl, c, h', tk', m', news', rfl, F, N, hn, h1, h2, hp⟩ := hp
  exact k c m' h' tk' hp (ksw_fr h1 h2 F) (fun p hp => N p (hn p hp))
theorem nameTab_len {k : Int} (h0 : 0 ≤ k) (h1 : k < 8) : (nameTab.getD k.toNat []).length ≤ 20 := by
  have : ∀ j : Fin 8, (nameTab.getD j.1 []).length ≤ 20 := by decide
  exact this ⟨k.toNat, by omega⟩
theorem sortTab_len {k : Int} (h0 : 0 ≤ k) (h1 : k < 8) : (sortTab.getD k.toNat []).length ≤ 20 := by
  have : ∀ j : Fin 8, (sortTab.getD j.1 []).length ≤ 20 := by decide
  exact this ⟨k.toNat, by omega⟩
theorem add_bb {prog : Program} {w : World} {A : Around} {E : Value → Shared → Prop} {s : Shared} {b c : Array UInt8} {t u : Tok} {o1 o2 : List Int} {Q : Value → Shared → Prop} (h1 : KBw.bInts b = o1) (h2 : KBw.bInts c = o2) (hl : o1.length + o2.length ≤ 1000)
    (h : ∀ d t' k, KBw.bInts d = o1 ++ o2 → Q (.bytes d t') { s with toks := k }) : wpAny (model prog w) A (binaryOp .Add (.bytes b t) (.bytes c u)) Q E s := by
  refine KBy.add_bytes ?_ fun t' k => h _ t' k (KBw.ints_app h1 h2)
  have e1 := KBw.ints_length b
  have e2 := KBw.ints_length c
  rw [h1] at e1
  rw [h2] at e2
  omega
theorem gap_len {g : List Int} (h : gapIs g) : g.length ≤ 2 := by rcases h with rfl | rfl | rfl <;> decide
theorem digs_asc {fs : List Int} (h : digs fs) : ∀ x ∈ fs, 0 ≤ x ∧ x ≤ 127 := fun x hx => ⟨by have := (h x hx).1; omega, by have := (h x hx).2; omega⟩
theorem rb1 {r a X : Bool} {na : Int} (h1 : r = true) (h2 : na < 4) (h3 : a = true) : X = (r && decide (na < 4) && a && X) := by simp [h1, h2, h3]
theorem rb2 {r a X : Bool} {na : Int} (h1 : r = true) (h2 : na < 4) (h3 : a = false) : a = (r && decide (na < 4) && a && X) := by simp [h3]
theorem rb3 {r a X : Bool} {na : Int} (h1 : r = true) (h2 : ¬ na < 4) : decide (na < 4) = (r && decide (na < 4) && a && X) := by simp [h2]
theorem rb4 {r a X : Bool} {na : Int} (h1 : r = false) : r = (r && decide (na < 4) && a && X) := by simp [h1]
theorem ent_mod {o : Option (Int × Int)} {r B : Bool} {v : Int × Int} (e : r = B) (h : o = if B = true then some v else none) : o = if r = true then some v else none := by rw [e]; exact h
theorem gap_asc {g : List Int} (h : gapIs g) : ∀ x ∈ g, 0 ≤ x ∧ x ≤ 127 := by rcases h with rfl | rfl | rfl <;> decide
theorem tab_asc {ls : List (List Int)} (h : ∀ l ∈ ls, ∀ x ∈ l, 0 ≤ x ∧ x ≤ 127) (k : Nat) : ∀ x ∈ ls.getD k [], 0 ≤ x ∧ x ≤ 127 := by
  intro x hx
  rw [List.getD_eq_getElem?_getD] at hx
  cases e : ls[k]? with
  | none => rw [e] at hx; cases hx
  | some l => rw [e] at hx; exact h l (List.mem_of_getElem? e) x hx
theorem ent_asc {o1 o2 fs : List Int} {i j : Nat} (h1 : gapIs o1) (h2 : gapIs o2) (hd : digs fs) : ∀ x ∈ nameTab.getD i [] ++ o1 ++ sortTab.getD j [] ++ o2 ++ fs, 0 ≤ x ∧ x ≤ 127 := by
  intro x hx
  simp only [List.mem_append] at hx
  rcases hx with (((hx | hx) | hx) | hx) | hx
  · exact tab_asc (by decide) _ x hx
  · exact gap_asc h1 x hx
  · exact tab_asc (by decide) _ x hx
  · exact gap_asc h2 x hx
  · exact digs_asc hd x hx
theorem plain_ks {ts ks : List Int} (h : 32 :: ts ++ [41, 32, 120] = ks) (hl : ts.length ≤ 100) (ha : ∀ x ∈ ts, 0 ≤ x ∧ x ≤ 127) {r : Bool} {v : Int} (hm : modP (32 :: ts ++ [41, 32, 120]) 0 = if r = true then some (v, (ts.length : Int) + 1) else none) :
    (4 ≤ ks.length ∧ ks.length ≤ 104) ∧ (∀ x ∈ ks, 0 ≤ x ∧ x ≤ 127) ∧ modP ks 0 = if r = true then some (v, (ks.length : Int) - 3) else none := by
  subst h
  refine ⟨by simp only [List.length_append, List.length_cons, List.length_nil]; omega, ?_, ?_⟩
  · intro x hx
    simp only [List.cons_append, List.mem_cons, List.mem_append, List.not_mem_nil, or_false] at hx
    rcases hx with rfl | hx | rfl | rfl | rfl
    · decide
    · exact ha x hx
    all_goals decide
  · rw [hm]
    have : ((32 :: ts ++ [41, 32, 120]).length : Int) - 3 = (ts.length : Int) + 1 := by simp only [List.length_append, List.length_cons, List.length_nil]; omega
    rw [this]
theorem plain_hP {hv : Value} {ho : Obj} {D : Int → Nat → Obj} {ks : List Int} {r : Bool} {wv : Int} (hP : (∃ n j t t2, hv = .int n t ∧ ho = D j t2 ∧ modP ks 0 = some (n, j)) ∨ (hv = .none ∧ modP ks 0 = none)) (hm : modP ks 0 = if r = true then some (wv, (ks.length : Int) - 3) else none) :
    (r = true ∧ ∃ t t2, hv = .int wv t ∧ ho = D ((ks.length : Int) - 3) t2) ∨ (r = false ∧ hv = .none) := by
  cases r with
  | true =>
    rw [if_pos rfl] at hm
    rcases hP with ⟨n, j, t, t2, e1, e2, e3⟩ | ⟨_, e⟩
    · rw [hm] at e3
      obtain ⟨rfl, rfl⟩ := Prod.mk.inj (Option.some.inj e3)
      exact .inl ⟨rfl, t, t2, e1, e2⟩
    · rw [hm] at e; cases e
  | false =>
    rw [if_neg Bool.false_ne_true] at hm
    rcases hP with ⟨n, j, t, t2, e1, e2, e3⟩ | ⟨e, _⟩
    · rw [hm] at e3; cases e3
    · exact .inr ⟨rfl, e⟩
theorem len3 {α : Type} {l : List α} (h : l.length = 3) : ∃ a b c, l = [a, b, c] := by
  match l, h with
  | [a, b, c], _ => exact ⟨a, b, c, rfl⟩
set_option maxHeartbeats 8000000 in
theorem law_c (w : World) {mean : ExcName → Option Value} {mg mb : PySem.Str → Option Value} {s : Shared} {la : Addr} {vs : List Value} {ns : List Int} {R : Result → Shared → Prop} (X : (hd.heap_1 w.params).In s.heap) (T : Top viewQ (looseW viewQ [PySem.Str.ofString "PostError"]) mean mg mb s.heap)
    (hl : s.heap.IsList la vs.toArray) (hI : IntsAre vs ns) (hlen : ns.length ≤ 63)
    (ret : ∀ L' h' tk' m' news', Fr s.heap L' h' m' → News s.heap L' h' news' → R (.ok (.ret (.bool true))) { s with heap := h', toks := tk' }) :
    codeN (model PySem.Challenge.rw_or0059_01.row.prog w) callerA (.call (.ref 406) ⟨[.ref la], []⟩) R s := by
  k_dflt (refine' code_callerCN ?k1 ?k2 ?k6 ?k7 ?k9 ?kB ?kN ?_ ?c2 ?c3 ?c4; (case k1 => exact X); (case k2 => exact T); (case k6 => k_is); (case k7 => k_is); (case k9 => exact BindsTo.of_eq rfl); (case kB => exact rfl); (case kN => decide); (case c2 => exact rfl); (case c3 => exact rfl); (case c4 => exact rfl))
  intro L' h₁ tk cells F N Y B
  k_cells Y
  (try dsimp only)
  k_with_none
  k_with "wpN" => (k_here; (fail_if_success (with_reducible show wpN _ _ (exec (Stmt.For _ _ _ _ _) _) _ _ _)); (with_reducible show wpN _ _ _ _ _ _); k_dflt (refine wpN_of ?_; (try k_fold)))
  k_with "wpN" => (k_here; (with_reducible show wpN _ _ (execs (_ :: _) _) _ _ _); k_dflt (refine N_execs_cons ?_))
  k_with "wpN" => (k_here; (with_reducible show wpN _ _ (execs [] _) _ _ _); k_dflt (refine N_execs_nil ?_; (try dsimp only)))
  k_with "call ref" => (k_here; (with_reducible show wpAny _ _ (call (Value.ref 394) _) _ _ _); k_dflt (refine GivesC.use2 (by k_asm) (by k_asm) (by k_asm) (by k_asm) (by k_asm) (by first | exact rfl | assumption) (by intro o9; k_upd) (by ktr_room) (by ktr_units) (next_c _ (by assumption) (by first | assumption | omega | (simp only [List.length_map]; omega)) (by decide) (by decide)) ?_; intro v9 vs9 n9 h9 tk9 r9 F9 N9; obtain ⟨⟨k9, t9, e9, g9, g9'⟩, ns9, i9, l9⟩ := r9; subst e9; (try dsimp only at N9); (try k_sweep); (try dsimp only); (try k_fold)))
  k_steps
  rename_i ca _ _ o1 _ oc dc _ _ tla _ l1 D9 _ l2 _ _ _ F9 N9
  refine N_For s.heap (by rfl) (by rfl) ?_
  k_steps
  rename Fr _ _ _ _ => F8
  rename News _ _ _ _ => N8
  obtain ⟨mb, F8, hmb⟩ := fr_gen F8 [(PySem.Str.ofString "has_entry", .bool (k9 == 1)), (PySem.Str.ofString "turns", .ref tla)] (by intro p hp; simp only [List.mem_cons, List.not_mem_nil, or_false] at hp; rcases hp with rfl | rfl <;> rfl)
  with_unfolding_all refine range_N (n := 3) (fun c : List Value × Nat × List Value × Nat × Bool => [(tla, listOf c.2.2.1.toArray c.2.2.2.1), (ca, listOf c.1.toArray c.2.1), (L' + 1, oc)]) (fun c => [(PySem.Str.ofString "has_entry", .bool c.2.2.2.2), (PySem.Str.ofString "turns", .ref tla)]) (fun _ => True) stL (fun pre c => (∃ ns', IntsAre c.1 ns' ∧ ns'.length ≤ 40) ∧ c.2.2.1.length = pre.length) (vs9, n9, [], 0, k9 == 1) (by rfl) (by assumption) (by decide) (by decide) F8 (fun p hp => N8 p (by revert hp; simp only [List.mem_cons, List.not_mem_nil, or_false]; rintro (rfl | rfl | rfl) <;> simp)) trivial hmb ⟨⟨ns9, i9, l9⟩, rfl⟩ ?_ ?_
  all_goals (repeat (first | (rename Fr _ _ _ _ => Fz; clear Fz) | (rename News _ _ _ _ => Nz; clear Nz)))
  all_goals (try clear i9 l9 hmb)
  k_with_none
  k_with "wpN" => (k_here; (fail_if_success (with_reducible show wpN _ _ (exec (Stmt.For _ _ _ _ _) _) _ _ _)); (with_reducible show wpN _ _ _ _ _ _); k_dflt (refine wpN_of ?_; (try k_fold)))
  k_with "wpN" => (k_here; (with_reducible show wpN _ _ (execs (_ :: _) _) _ _ _); k_dflt (refine N_execs_cons ?_))
  k_with "wpN" => (k_here; (with_reducible show wpN _ _ (execs [] _) _ _ _); k_dflt (refine N_execs_nil ?_; (try dsimp only)))
  k_with "call ref" => (k_here; (with_reducible show wpAny _ _ (call (Value.ref 394) _) _ _ _); k_dflt (refine GivesC.use2 (by k_asm) (by k_asm) (by k_asm) (by k_asm) (by k_asm) (by first | exact rfl | assumption) (by intro o9; k_upd) (by ktr_room) (by ktr_units) (next_c _ (by assumption) (by first | assumption | omega | (simp only [List.length_map]; omega)) (by decide) (by decide)) ?_; intro v9 vs9 n9 h9 tk9 r9 F9 N9; obtain ⟨⟨k9, t9, e9, g9, g9'⟩, ns9, i9, l9⟩ := r9; subst e9; (try dsimp only at N9); (try k_sweep); (try dsimp only); (try k_fold)))
  k_with "getMethod bytes" => (k_here; (with_reducible refine BJ.method ?_))
  k_with "eval ListComp" => (k_here; k_dflt (refine LCg.ListComp_U (F₀ := by k_asm) (by rfl) (by decide) (by rfl) (by decide) (by rfl) ?_))
  k_with "subscriptTail" => (k_here; (with_reducible show wpAny _ _ (subscriptTail _ _ (Value.ref _) (Value.int _ _)) _ _ _); k_dflt (refine figs_at (led_tup (by k_asm) (by k_mem)) (by repeat (first | exact IntsAre.nil | refine IntsAre.cons _ _ ?_)) (by assumption) (by assumption) ?_ (by with_unfolding_all rfl); intro v8 u8 p8 q8; (try dsimp only)))
  k_with "CompSrc" => (focus (k_here; (rename Fr _ _ _ _ => F9); (rename News _ _ _ _ => N9); k_dflt (refine src_range (n := v8.toNat) (news := (tla, listOf tl.toArray tn) :: (ca, listOf vs9.toArray n9) :: (L' + 1, oc) :: own) (by rfl) F9 (fun p hp => N9 p (List.mem_cons_of_mem _ hp)) (by assumption) (figs_small p8 q8) (figs_size p8) (figs_fits p8 q8) ?_; intro g'; refine comp_restS (σ := List Value × Nat) (fun c => (tla, listOf tl.toArray tn) :: (ca, listOf c.1.toArray c.2) :: (L' + 1, oc) :: own) (fun c ys => (∃ ns', IntsAre c.1 ns' ∧ ns'.length ≤ 40) ∧ ∃ bs, BJ.ByArr ys bs ∧ ∀ b ∈ bs, ∃ d, KBw.bInts b = [d] ∧ 48 ≤ d ∧ d ≤ 57) (vs9, n9) ⟨⟨ns9, i9, l9⟩, [], .nil, fun b hb => nomatch hb⟩ ?_ ?_; (focus (rintro ⟨its8, n8⟩ i8 v7 I8 oI8 C8 oC8 D8 m8 ys8 h8 tk8 E8 ⟨⟨ns8, hi8, hl8⟩, bs8, hb8, hd8⟩ hlt8 - hC8 hx8 F8 N8 off8 ne8; clear N9 F9; have off7 := off8; (try simp only [LCg.Off3, and_true] at off7); (try dsimp only at N8 ⊢))); rotate_left; (focus (rintro ⟨its8, n8⟩ ys8 ⟨⟨ns8, hi8, hl8⟩, bs8, hb8, hd8⟩ hlen8; clear N9 F9; unfold LCg.FinE; intro D8 h8 tk8 F8 N8 o8; (try dsimp only at N8 ⊢))); rotate_right)))
  k_with "CompEnd" => ((rename News _ _ _ _ => N9); refine LCg.CompEnd.intro (by assumption) N9 ((tla, listOf tl.toArray tn) :: (ca, listOf vs9.toArray n9) :: (L' + 1, oc) :: own) (fun p hp => List.mem_cons_of_mem _ hp) off8 trivial ⟨(vs9, n9), rfl, ⟨ns9, i9, l9⟩, _, hb8.snoc _ _, ?_⟩; exact digs_snoc hd8 (by assumption) (by assumption))
  k_with "call builtin:bytes.join" => (k_here; k_dflt (refine BJ.join_K (bs := bs8) ⟨_, (N8 _ (List.mem_cons_self ..)).1, rfl, _, rfl⟩ hb8 (figs_join hb8 hd8 hlen8 q8).1 (figs_join hb8 hd8 hlen8 q8).2.1 ?_; intro t9 k9'; (try dsimp only)))
  · rintro ⟨its, n, tl, tn, hb⟩ pre k t u h tk own hk hpre hown - ⟨⟨ns', hi, hl'⟩, htll⟩ F N
    dsimp only [List.map] at hown
    dsimp only [List.cons_append, List.nil_append] at F N hi htll
    dsimp only [kstB] at F
    refine N_execs_cons (stage_M mb (h₀ := s.heap) (L := L') (σ := Array UInt8 × Tok × List Value × Nat) (fun c => (tla, listOf tl.toArray tn) :: (ca, listOf c.2.2.1.toArray c.2.2.2) :: (L' + 1, oc) :: own) (fun c => [(PySem.Str.ofString "figures", .bytes c.1 c.2.1), (PySem.Str.ofString "has_entry", .bool hb), (PySem.Str.ofString "turns", .ref tla)]) (fun c => digs (KBw.bInts c.1) ∧ (KBw.bInts c.1).length ≤ 21 ∧ ∃ ns', IntsAre c.2.2.1 ns' ∧ ns'.length ≤ 40) ?_ ?_)
    · (try dsimp only)
      k_steps
      focus (refine stage_end (Builtin.Bytes.joined #[] bs8, t9, its8, n8) (by assumption) (by assumption) (fun p hp => List.mem_cons_of_mem _ hp) (by (try dsimp only); (repeat (refine List.forall_mem_cons.mpr ⟨rfl, ?_⟩)); exact List.forall_mem_nil _) (by intro z hz hs; (try dsimp only); (repeat (refine ch_step (out_ne hs _) ?_)); first | exact ch_base hs | (refine ch_kst ?_ (ch_base hs); (repeat (refine List.forall_mem_cons.mpr ⟨(by dsimp only; exact out_ne hs _), ?_⟩)); exact List.forall_mem_nil _)) ⟨(figs_join hb8 hd8 hlen8 q8).2.2.1, (figs_join hb8 hd8 hlen8 q8).2.2.2, ns8, hi8, hl8⟩)
      focus (refine stage_end (#[55], _, its, n) (by assumption) (by assumption) (fun p hp => hp) (by (try dsimp only); (repeat (refine List.forall_mem_cons.mpr ⟨rfl, ?_⟩)); exact List.forall_mem_nil _) (by intro z hz hs; (try dsimp only); (repeat (refine ch_step (out_ne hs _) ?_)); first | exact ch_base hs | (refine ch_kst ?_ (ch_base hs); (repeat (refine List.forall_mem_cons.mpr ⟨(by dsimp only; exact out_ne hs _), ?_⟩)); exact List.forall_mem_nil _)) ⟨by intro x hx; rw [List.mem_singleton.mp hx]; decide, Nat.le_of_ble_eq_true rfl, ns', hi, hl'⟩)
    clear F N hi hl' ns'
    rintro ⟨fb, ft, its, n⟩ u h tk ⟨hd1, hd2, ns', hi, hl'⟩ F N
    (try dsimp only at hd1 hd2 hi F N ⊢)
    dsimp only [kstB] at F
    obtain ⟨fs, hfs⟩ : ∃ fs, KBw.bInts fb = fs := ⟨_, rfl⟩
    rw [hfs] at hd1 hd2
    k_with_none
    k_with "wpN" => (k_here; (fail_if_success (with_reducible show wpN _ _ (exec (Stmt.For _ _ _ _ _) _) _ _ _)); (with_reducible show wpN _ _ _ _ _ _); k_dflt (refine wpN_of ?_; (try k_fold)))
    k_with "wpN" => (k_here; (with_reducible show wpN _ _ (execs (_ :: _) _) _ _ _); k_dflt (refine N_execs_cons ?_))
    k_with "wpN" => (k_here; (with_reducible show wpN _ _ (execs [] _) _ _ _); k_dflt (refine N_execs_nil ?_; (try dsimp only)))
    k_with "call ref" => (k_here; (with_reducible show wpAny _ _ (call (Value.ref 394) _) _ _ _); k_dflt (refine GivesC.use2 (by k_asm) (by k_asm) (by k_asm) (by k_asm) (by k_asm) (by first | exact rfl | assumption) (by intro o9; k_upd) (by ktr_room) (by ktr_units) (next_c _ (by assumption) (by first | assumption | omega | (simp only [List.length_map]; omega)) (by decide) (by decide)) ?_; intro v9 vs9 n9 h9 tk9 r9 F9 N9; obtain ⟨⟨k9, t9, e9, g9, g9'⟩, ns9, i9, l9⟩ := r9; subst e9; (try dsimp only at N9); (try k_sweep); (try dsimp only); (try k_fold)))
    k_with "call ref" => (k_here; (with_reducible show wpAny _ _ (call (Value.ref 401) _) _ _ _); k_dflt (refine GivesC.use2 (by k_asm) (by k_asm) (by k_asm) (by k_asm) (by k_asm) (by first | exact rfl | assumption) (by intro o9; k_upd) (by ktr_room) (by ktr_units) (gap_c _ (by assumption) (by first | assumption | omega)) ?_; intro v9 vs9 n9 h9 tk9 r9 F9 N9; obtain ⟨⟨b9, t9, e9, g9⟩, ns9, i9, l9⟩ := r9; subst e9; (try dsimp only at N9); (try k_sweep); (try dsimp only); (try k_fold)))
    refine N_execs_cons (stage_M mb (h₀ := s.heap) (L := L') (σ := Bool × Tok) (fun c => (tla, listOf tl.toArray tn) :: (ca, listOf its.toArray n) :: (L' + 1, oc) :: own) (fun c => [(PySem.Str.ofString "is_right", .bool c.1), (PySem.Str.ofString "worth", .int 0 c.2), (PySem.Str.ofString "figures", .bytes fb ft), (PySem.Str.ofString "has_entry", .bool hb), (PySem.Str.ofString "turns", .ref tla)]) (fun c => c.1 = decide (0 < fs.length ∧ fs.length ≤ 19)) ?_ ?_)
    · k_steps
      all_goals (refine stage_end (_, _) (by assumption) (by assumption) (fun p hp => by repeat (first | exact hp | refine List.mem_cons_of_mem _ ?_)) (by (try dsimp only); (repeat (refine List.forall_mem_cons.mpr ⟨rfl, ?_⟩)); exact List.forall_mem_nil _) (by intro z hz hs; (try dsimp only); (repeat (refine ch_step (out_ne hs _) ?_)); first | exact ch_base hs | (refine ch_kst ?_ (ch_base hs); (repeat (refine List.forall_mem_cons.mpr ⟨(by dsimp only; exact out_ne hs _), ?_⟩)); exact List.forall_mem_nil _)) (by refine decide_eq_decide.mpr ?_; omega))
    clear F N
    rintro ⟨r, wt⟩ u h tk hr F N
    (try dsimp only at hr F N ⊢)
    dsimp only [kstB] at F
    refine N_execs_cons (stage_M mb (h₀ := s.heap) (L := L') (σ := Int × Tok) (fun c => (tla, listOf tl.toArray tn) :: (ca, listOf its.toArray n) :: (L' + 1, oc) :: own) (fun c => [(PySem.Str.ofString "is_right", .bool r), (PySem.Str.ofString "worth", .int c.1 c.2), (PySem.Str.ofString "figures", .bytes fb ft), (PySem.Str.ofString "has_entry", .bool hb), (PySem.Str.ofString "turns", .ref tla)]) (fun c => c.1 = numZ fs) ?_ ?_)
    · k_steps
      all_goals (refine stage_end (_, _) (by assumption) (by assumption) (fun p hp => by repeat (first | exact hp | refine List.mem_cons_of_mem _ ?_)) (by (try dsimp only); (repeat (refine List.forall_mem_cons.mpr ⟨rfl, ?_⟩)); exact List.forall_mem_nil _) (by intro z hz hs; (try dsimp only); (repeat (refine ch_step (out_ne hs _) ?_)); first | exact ch_base hs | (refine ch_kst ?_ (ch_base hs); (repeat (refine List.forall_mem_cons.mpr ⟨(by dsimp only; exact out_ne hs _), ?_⟩)); exact List.forall_mem_nil _)) (by dsimp only; rfl))
    clear F N
    rintro ⟨wv, wt⟩ u h tk hwv F N
    (try dsimp only at hwv F N ⊢)
    dsimp only [kstB] at F
    refine N_execs_cons (stage_W mb (h₀ := s.heap) (L := L') (σ := Array UInt8 × Tok × Bool × List Value × Nat) (fun c => (tla, listOf tl.toArray tn) :: (ca, listOf c.2.2.2.1.toArray c.2.2.2.2) :: (L' + 1, oc) :: own) (fun c => [(PySem.Str.ofString "text", .bytes c.1 c.2.1), (PySem.Str.ofString "is_right", .bool c.2.2.1), (PySem.Str.ofString "worth", .int wv wt), (PySem.Str.ofString "has_entry", .bool hb), (PySem.Str.ofString "turns", .ref tla)]) (fun c => (∃ ts, KBw.bInts c.1 = ts ∧ ts.length ≤ 100 ∧ (∀ x ∈ ts, 0 ≤ x ∧ x ≤ 127) ∧ modP (32 :: ts ++ [41, 32, 120]) 0 = if c.2.2.1 = true then some (numZ fs, (ts.length : Int) + 1) else none) ∧ ∃ ns', IntsAre c.2.2.2.1 ns' ∧ ns'.length ≤ 40) ?_ ?_)
    · cases hb
      · k_steps
        refine stage_end (fb, ft, r, its, n) (by assumption) (by assumption) (fun p hp => by repeat (first | exact hp | refine List.mem_cons_of_mem _ ?_)) (by (try dsimp only); (repeat (refine List.forall_mem_cons.mpr ⟨rfl, ?_⟩)); exact List.forall_mem_nil _) (by intro z hz hs; (try dsimp only); (repeat (refine ch_step (out_ne hs _) ?_)); first | exact ch_base hs | (refine ch_kst ?_ (ch_base hs); (repeat (refine List.forall_mem_cons.mpr ⟨(by dsimp only; exact out_ne hs _), ?_⟩)); exact List.forall_mem_nil _)) ⟨⟨fs, hfs, by omega, digs_asc hd1, by subst hr; subst hwv; exact plain_none hd1 hd2⟩, ns', hi, hl'⟩
      · refine N_If ?_
        k_with_none
        k_steps
        k_with_none
        k_with "wpN" => (k_here; (fail_if_success (with_reducible show wpN _ _ (exec (Stmt.For _ _ _ _ _) _) _ _ _)); (with_reducible show wpN _ _ _ _ _ _); k_dflt (refine wpN_of ?_; (try k_fold)))
        k_with "wpN" => (k_here; (with_reducible show wpN _ _ (execs (_ :: _) _) _ _ _); k_dflt (refine N_execs_cons ?_))
        k_with "wpN" => (k_here; (with_reducible show wpN _ _ (execs [] _) _ _ _); k_dflt (refine N_execs_nil ?_; (try dsimp only)))
        k_with "call ref" => (k_here; (with_reducible show wpAny _ _ (call (Value.ref 394) _) _ _ _); k_dflt (refine GivesC.use2 (by k_asm) (by k_asm) (by k_asm) (by k_asm) (by k_asm) (by first | exact rfl | assumption) (by intro o9; k_upd) (by ktr_room) (by ktr_units) (next_c _ (by assumption) (by first | assumption | omega | (simp only [List.length_map]; omega)) (by decide) (by decide)) ?_; intro v9 vs9 n9 h9 tk9 r9 F9 N9; obtain ⟨⟨k9, t9, e9, g9, g9'⟩, ns9, i9, l9⟩ := r9; subst e9; (try dsimp only at N9); (try k_sweep); (try dsimp only); (try k_fold)))
        k_with "call ref" => (k_here; (with_reducible show wpAny _ _ (call (Value.ref 401) _) _ _ _); k_dflt (refine GivesC.use2 (by k_asm) (by k_asm) (by k_asm) (by k_asm) (by k_asm) (by first | exact rfl | assumption) (by intro o9; k_upd) (by ktr_room) (by ktr_units) (gap_c _ (by assumption) (by first | assumption | omega)) ?_; intro v9 vs9 n9 h9 tk9 r9 F9 N9; obtain ⟨⟨b9, t9, e9, g9⟩, ns9, i9, l9⟩ := r9; subst e9; (try dsimp only at N9); (try k_sweep); (try dsimp only); (try k_fold)))
        refine N_execs_cons (stage_M mb (h₀ := s.heap) (L := L') (σ := Int × Tok × Int × Tok × List Value × Nat) (fun c => (tla, listOf tl.toArray tn) :: (ca, listOf c.2.2.2.2.1.toArray c.2.2.2.2.2) :: (L' + 1, oc) :: own) (fun c => [(PySem.Str.ofString "name", .int c.1 c.2.1), (PySem.Str.ofString "sort", .int c.2.2.1 c.2.2.2.1), (PySem.Str.ofString "is_right", .bool r), (PySem.Str.ofString "worth", .int wv wt), (PySem.Str.ofString "figures", .bytes fb ft), (PySem.Str.ofString "has_entry", .bool true), (PySem.Str.ofString "turns", .ref tla)]) (fun c => (0 ≤ c.1 ∧ c.1 < 8) ∧ (0 ≤ c.2.2.1 ∧ c.2.2.1 < 8) ∧ ∃ ns', IntsAre c.2.2.2.2.1 ns' ∧ ns'.length ≤ 40) ?_ ?_)
        · k_steps
          all_goals (refine stage_end (_, _, _, _, _, _) (by assumption) (by assumption) (fun p hp => by repeat (first | exact hp | refine List.mem_cons_of_mem _ ?_)) (by (try dsimp only); (repeat (refine List.forall_mem_cons.mpr ⟨rfl, ?_⟩)); exact List.forall_mem_nil _) (by intro z hz hs; (try dsimp only); (repeat (refine ch_step (out_ne hs _) ?_)); first | exact ch_base hs | (refine ch_kst ?_ (ch_base hs); (repeat (refine List.forall_mem_cons.mpr ⟨(by dsimp only; exact out_ne hs _), ?_⟩)); exact List.forall_mem_nil _)) ⟨⟨by assumption, by assumption⟩, ⟨by assumption, by assumption⟩, ns9, i9, l9⟩)
        clear F N hi hl' ns'
        rintro ⟨na, nat, so, sot, its, n⟩ u h tk ⟨⟨na0, na1⟩, ⟨so0, so1⟩, ns', hi, hl'⟩ F N
        (try dsimp only at na0 na1 so0 so1 hi F N ⊢)
        dsimp only [kstB] at F
        refine N_execs_cons (stage_M mb (h₀ := s.heap) (L := L') (σ := Addr × Array UInt8 × Tok × Array UInt8 × Tok × Nat × List Value × Nat) (fun c => (c.1, listOf [Value.bytes c.2.1 c.2.2.1, Value.bytes c.2.2.2.1 c.2.2.2.2.1].toArray c.2.2.2.2.2.1) :: (tla, listOf tl.toArray tn) :: (ca, listOf c.2.2.2.2.2.2.1.toArray c.2.2.2.2.2.2.2) :: (L' + 1, oc) :: own) (fun c => [(PySem.Str.ofString "gaps", .ref c.1), (PySem.Str.ofString "name", .int na nat), (PySem.Str.ofString "sort", .int so sot), (PySem.Str.ofString "is_right", .bool r), (PySem.Str.ofString "worth", .int wv wt), (PySem.Str.ofString "figures", .bytes fb ft), (PySem.Str.ofString "has_entry", .bool true), (PySem.Str.ofString "turns", .ref tla)]) (fun c => (gapIs (KBw.bInts c.2.1) ∧ gapIs (KBw.bInts c.2.2.2.1)) ∧ ∃ ns', IntsAre c.2.2.2.2.2.2.1 ns' ∧ ns'.length ≤ 40) ?_ ?_)
        · k_steps
          refine stage_end (_, _, _, _, _, _, _, _) (by assumption) (by assumption) (fun p hp => by repeat (first | exact hp | refine List.mem_cons_of_mem _ ?_)) (by (try dsimp only); (repeat (refine List.forall_mem_cons.mpr ⟨rfl, ?_⟩)); exact List.forall_mem_nil _) (by intro z hz hs; (try dsimp only); (repeat (refine ch_step (out_ne hs _) ?_)); first | exact ch_base hs | (refine ch_kst ?_ (ch_base hs); (repeat (refine List.forall_mem_cons.mpr ⟨(by dsimp only; exact out_ne hs _), ?_⟩)); exact List.forall_mem_nil _)) ⟨⟨by assumption, by assumption⟩, ns9, i9, l9⟩
        clear F N hi hl' ns'
        rintro ⟨ga, g1, gt1, g2, gt2, gn, its, n⟩ u h tk ⟨⟨hg1, hg2⟩, ns', hi, hl'⟩ F N
        (try dsimp only at hg1 hg2 hi F N ⊢)
        obtain ⟨o1s, hg1'⟩ : ∃ os, KBw.bInts g1 = os := ⟨_, rfl⟩
        obtain ⟨o2s, hg2'⟩ : ∃ os, KBw.bInts g2 = os := ⟨_, rfl⟩
        rw [hg1'] at hg1
        rw [hg2'] at hg2
        dsimp only [kstB] at F
        have hlt1 := gap_len hg1
        have hlt2 := gap_len hg2
        have hlt3 := nameTab_len na0 na1
        have hlt4 := sortTab_len so0 so1
        k_with_none
        k_with "wpN" => (k_here; (fail_if_success (with_reducible show wpN _ _ (exec (Stmt.For _ _ _ _ _) _) _ _ _)); (with_reducible show wpN _ _ _ _ _ _); k_dflt (refine wpN_of ?_; (try k_fold)))
        k_with "wpN" => (k_here; (with_reducible show wpN _ _ (execs (_ :: _) _) _ _ _); k_dflt (refine N_execs_cons ?_))
        k_with "wpN" => (k_here; (with_reducible show wpN _ _ (execs [] _) _ _ _); k_dflt (refine N_execs_nil ?_; (try dsimp only)))
        k_with "subscriptTail" => (k_here; (with_reducible show wpAny _ _ (subscriptTail _ _ (Value.ref 387) (Value.int _ _)) _ _ _); k_dflt (refine tab_at (ls := sortTab) (tupK (Frag.In.keeps (by k_asm) (Fr.keep (by k_asm))) (by k_is)) (by (repeat (first | exact BysAre.nil | refine BysAre.cons rfl ?_)); done) (by assumption) (by assumption) (by decide) ?_ (by with_unfolding_all rfl); intro b9 u9 hb9; (try dsimp only)))
        k_with "subscriptTail" => (k_here; (with_reducible show wpAny _ _ (subscriptTail _ _ (Value.ref 386) (Value.int _ _)) _ _ _); k_dflt (refine tab_at (ls := nameTab) (tupK (Frag.In.keeps (by k_asm) (Fr.keep (by k_asm))) (by k_is)) (by (repeat (first | exact BysAre.nil | refine BysAre.cons rfl ?_)); done) (by assumption) (by assumption) (by decide) ?_ (by with_unfolding_all rfl); intro b9 u9 hb9; (try dsimp only)))
        k_with "binaryOp Add bytes bytes" => (k_here; (with_reducible show wpAny _ _ (binaryOp Operator.Add (Value.bytes _ _) (Value.bytes _ _)) _ _ _); (refine add_bb (by assumption) (by assumption) (by (try simp only [List.length_append]); omega) ?_); intro d9 t9 k9 hd9; (try dsimp only))
        refine N_execs_cons (stage_M mb (h₀ := s.heap) (L := L') (σ := Array UInt8 × Tok) (fun c => (ga, listOf [Value.bytes g1 gt1, Value.bytes g2 gt2].toArray gn) :: (tla, listOf tl.toArray tn) :: (ca, listOf its.toArray n) :: (L' + 1, oc) :: own) (fun c => [(PySem.Str.ofString "text", .bytes c.1 c.2), (PySem.Str.ofString "gaps", .ref ga), (PySem.Str.ofString "name", .int na nat), (PySem.Str.ofString "sort", .int so sot), (PySem.Str.ofString "is_right", .bool r), (PySem.Str.ofString "worth", .int wv wt), (PySem.Str.ofString "has_entry", .bool true), (PySem.Str.ofString "turns", .ref tla)]) (fun c => KBw.bInts c.1 = nameTab.getD na.toNat [] ++ o1s ++ sortTab.getD so.toNat [] ++ o2s ++ fs) ?_ ?_)
        · k_steps
          refine stage_end (_, _) (by assumption) (by assumption) (fun p hp => by repeat (first | exact hp | refine List.mem_cons_of_mem _ ?_)) (by (try dsimp only); (repeat (refine List.forall_mem_cons.mpr ⟨rfl, ?_⟩)); exact List.forall_mem_nil _) (by intro z hz hs; (try dsimp only); (repeat (refine ch_step (out_ne hs _) ?_)); first | exact ch_base hs | (refine ch_kst ?_ (ch_base hs); (repeat (refine List.forall_mem_cons.mpr ⟨(by dsimp only; exact out_ne hs _), ?_⟩)); exact List.forall_mem_nil _)) (by assumption)
        clear F N
        rintro ⟨xb, xt⟩ u h tk hx F N
        (try dsimp only at hx F N ⊢)
        dsimp only [kstB] at F
        k_with_none
        k_with "wpN" => (k_here; (fail_if_success (with_reducible show wpN _ _ (exec (Stmt.For _ _ _ _ _) _) _ _ _)); (with_reducible show wpN _ _ _ _ _ _); k_dflt (refine wpN_of ?_; (try k_fold)))
        k_with "wpN" => (k_here; (with_reducible show wpN _ _ (execs (_ :: _) _) _ _ _); k_dflt (refine N_execs_cons ?_))
        k_with "wpN" => (k_here; (with_reducible show wpN _ _ (execs [] _) _ _ _); k_dflt (refine N_execs_nil ?_; (try dsimp only)))
        k_with "compareOp Eq ref ref" => (k_here; (with_reducible show wpAny _ _ (compareOp CmpOp.Eq (Value.ref ga) (Value.ref _)) _ _ _); k_dflt (refine gaps_eq (led_list (us := [Value.bytes g1 gt1, Value.bytes g2 gt2]) (by k_asm) (by k_mem)) (led_list (us := [Value.bytes #[32] _, Value.bytes #[32] _]) (by k_asm) (by k_mem)) hg1' hg2' (by ktr_units) ?_; (try dsimp only)))
        k_steps
        all_goals (refine stage_end (xb, xt, _, its, n) (by assumption) (by assumption) (fun p hp => by repeat (first | exact hp | refine List.mem_cons_of_mem _ ?_)) (by (try dsimp only); (repeat (refine List.forall_mem_cons.mpr ⟨rfl, ?_⟩)); exact List.forall_mem_nil _) (by intro z hz hs; (try dsimp only); (repeat (refine ch_step (out_ne hs _) ?_)); first | exact ch_base hs | (refine ch_kst ?_ (ch_base hs); (repeat (refine List.forall_mem_cons.mpr ⟨(by dsimp only; exact out_ne hs _), ?_⟩)); exact List.forall_mem_nil _)) ⟨⟨_, hx, (by simp only [List.length_append]; omega), ent_asc hg1 hg2 hd1, ent_mod (by first | exact rb1 (by assumption) (by assumption) (by assumption) | exact rb2 (by assumption) (by assumption) (by assumption) | exact rb3 (by assumption) (by assumption) | exact rb4 (by assumption)) (plain_entry hr na0 na1 so0 so1 hg1 hg2 hd1 hd2)⟩, ns', hi, hl'⟩)
    clear F N hi hl' ns'
    rintro ⟨xb, xt, r', its, n⟩ u h tk ⟨⟨ts, hts, htl, hta, hmod⟩, ns', hi, hl'⟩ F N
    (try dsimp only at hts hmod hi F N ⊢)
    dsimp only [kstB] at F
    have hc1 : KBw.bInts #[32] = [32] := rfl
    have hc2 : KBw.bInts #[41, 32, 120] = [41, 32, 120] := rfl
    k_with_none
    k_with "wpN" => (k_here; (fail_if_success (with_reducible show wpN _ _ (exec (Stmt.For _ _ _ _ _) _) _ _ _)); (with_reducible show wpN _ _ _ _ _ _); k_dflt (refine wpN_of ?_; (try k_fold)))
    k_with "wpN" => (k_here; (with_reducible show wpN _ _ (execs (_ :: _) _) _ _ _); k_dflt (refine N_execs_cons ?_))
    k_with "wpN" => (k_here; (with_reducible show wpN _ _ (execs [] _) _ _ _); k_dflt (refine N_execs_nil ?_; (try dsimp only)))
    k_with "binaryOp Add bytes bytes" => (k_here; (with_reducible show wpAny _ _ (binaryOp Operator.Add (Value.bytes _ _) (Value.bytes _ _)) _ _ _); (refine add_bb (by assumption) (by assumption) (by (try simp only [List.length_append]); omega) ?_); intro d9 t9 k9 hd9; (try dsimp only))
    refine N_execs_cons (stage_M mb (h₀ := s.heap) (L := L') (σ := Array UInt8 × Tok) (fun c => (tla, listOf tl.toArray tn) :: (ca, listOf its.toArray n) :: (L' + 1, oc) :: own) (fun c => [(PySem.Str.ofString "octets", .bytes c.1 c.2), (PySem.Str.ofString "is_right", .bool r'), (PySem.Str.ofString "worth", .int wv wt), (PySem.Str.ofString "has_entry", .bool hb), (PySem.Str.ofString "turns", .ref tla)]) (fun c => KBw.bInts c.1 = 32 :: ts ++ [41, 32, 120]) ?_ ?_)
    · k_steps
      refine stage_end (_, _) (by assumption) (by assumption) (fun p hp => by repeat (first | exact hp | refine List.mem_cons_of_mem _ ?_)) (by (try dsimp only); (repeat (refine List.forall_mem_cons.mpr ⟨rfl, ?_⟩)); exact List.forall_mem_nil _) (by intro z hz hs; (try dsimp only); (repeat (refine ch_step (out_ne hs _) ?_)); first | exact ch_base hs | (refine ch_kst ?_ (ch_base hs); (repeat (refine List.forall_mem_cons.mpr ⟨(by dsimp only; exact out_ne hs _), ?_⟩)); exact List.forall_mem_nil _)) (by first | assumption | exact hd9)
    clear F N
    rintro ⟨ob, obt⟩ u h tk hob F N
    (try dsimp only at hob F N ⊢)
    dsimp only [kstB] at F
    obtain ⟨ks, hks⟩ : ∃ ks, 32 :: ts ++ [41, 32, 120] = ks := ⟨_, rfl⟩
    obtain ⟨hkl, hka, hmod⟩ := plain_ks hks htl hta hmod
    rw [hks] at hob
    clear hks hts
    k_with_none
    k_with "wpN" => (k_here; (fail_if_success (with_reducible show wpN _ _ (exec (Stmt.For _ _ _ _ _) _) _ _ _)); (with_reducible show wpN _ _ _ _ _ _); k_dflt (refine wpN_of ?_; (try k_fold)))
    k_with "wpN" => (k_here; (with_reducible show wpN _ _ (execs (_ :: _) _) _ _ _); k_dflt (refine N_execs_cons ?_))
    k_with "wpN" => (k_here; (with_reducible show wpN _ _ (execs [] _) _ _ _); k_dflt (refine N_execs_nil ?_; (try dsimp only)))
    refine N_execs_cons (stage_M mb (h₀ := s.heap) (L := L') (σ := Addr × Addr × Nat × Nat × Nat × Nat) (fun c => (c.1, wireO c.2.1 #[]) :: (c.2.1, wireD w c.2.2.1 c.2.2.2.1 ob c.2.2.2.2.1 0 c.2.2.2.2.2) :: (tla, listOf tl.toArray tn) :: (ca, listOf its.toArray n) :: (L' + 1, oc) :: own) (fun c => [(PySem.Str.ofString "wire", .ref c.1), (PySem.Str.ofString "heard", .none), (PySem.Str.ofString "octets", .bytes ob obt), (PySem.Str.ofString "is_right", .bool r'), (PySem.Str.ofString "worth", .int wv wt), (PySem.Str.ofString "has_entry", .bool hb), (PySem.Str.ofString "turns", .ref tla)]) (fun c => (@LT.lt Nat _ tla c.2.1 ∧ @LT.lt Nat _ ca c.2.1 ∧ @LT.lt Nat _ (L' + 1) c.2.1 ∧ AllLt c.2.1 own) ∧ @LT.lt Nat _ c.2.1 c.1) ?_ ?_)
    · k_steps
      refine stage_end (_, _, _, _, _, _) (by assumption) (by assumption) (fun p hp => by repeat (first | exact hp | refine List.mem_cons_of_mem _ ?_)) (by (try dsimp only); (repeat (refine List.forall_mem_cons.mpr ⟨rfl, ?_⟩)); exact List.forall_mem_nil _) (by intro z hz hs; (try dsimp only); (repeat (refine ch_step (out_ne hs _) ?_)); first | exact ch_base hs | (refine ch_kst ?_ (ch_base hs); (repeat (refine List.forall_mem_cons.mpr ⟨(by dsimp only; exact out_ne hs _), ?_⟩)); exact List.forall_mem_nil _)) ⟨by assumption, by assumption⟩
    clear F N
    rintro ⟨wa, da, wk1, wk2, wt1, wt2⟩ u h tk ⟨⟨hw1, hw2, hw3, hw4⟩, hw5⟩ F N
    (try dsimp only at hw1 hw2 hw3 hw4 hw5 F N ⊢)
    dsimp only [kstB] at F
    k_with_none
    k_with "wpN" => (k_here; (with_reducible show wpN _ _ (callWith _ (Value.ref _) _ (backTo _ (starEach (_ :: _) _)) []) _ _ _); k_dflt (refine callWith_KN (by k_asm) (by k_is) ?_; (try k_fold)))
    refine N_execs_cons (stage_W mb (h₀ := s.heap) (L := L') (σ := Value × Obj) (fun c => (wa, wireO da #[]) :: (da, c.2) :: (tla, listOf tl.toArray tn) :: (ca, listOf its.toArray n) :: (L' + 1, oc) :: own) (fun c => [(PySem.Str.ofString "wire", .ref wa), (PySem.Str.ofString "heard", c.1), (PySem.Str.ofString "octets", .bytes ob obt), (PySem.Str.ofString "is_right", .bool r'), (PySem.Str.ofString "worth", .int wv wt), (PySem.Str.ofString "has_entry", .bool hb), (PySem.Str.ofString "turns", .ref tla)]) (fun c => (∃ n j t t2, c.1 = .int n t ∧ c.2 = wireD w wk1 wk2 ob wt1 j t2 ∧ modP ks 0 = some (n, j)) ∨ (c.1 = .none ∧ modP ks 0 = none)) ?_ ?_)
    · refine N_Try ?_
      refine N_execs_cons (N_Assign_Name (N_Call ?_))
      k_steps
      k_dflt (refine GivesWB.use2 (D := wireD w wk1 wk2 ob wt1) (i := 0) (t2 := wt2) (da := da) (by k_asm) (by k_asm) (by k_asm) (by k_asm) (by k_asm) (by first | exact rfl | assumption) (by assumption) (by assumption) (by k_mem) (by intro o9; k_upd) (by ktr_room) (by ktr_units) (modseq_c _ hob (by omega) (by decide) (by omega) hka) ?_ ?_)
      · intro v9 j9 t9 h9 tk9 r9 F9 N9
        obtain ⟨n9, e9, u9, e9'⟩ := r9
        subst e9'
        (try dsimp only at N9)
        (try dsimp only)
        k_with_none
        k_with "wpN" => (k_here; (fail_if_success (with_reducible show wpN _ _ (exec (Stmt.For _ _ _ _ _) _) _ _ _)); (with_reducible show wpN _ _ _ _ _ _); k_dflt (refine wpN_of ?_; (try k_fold)))
        k_with "wpN" => (k_here; (with_reducible show wpN _ _ (execs (_ :: _) _) _ _ _); k_dflt (refine N_execs_cons ?_))
        k_with "wpN" => (k_here; (with_reducible show wpN _ _ (execs [] _) _ _ _); k_dflt (refine N_execs_nil ?_; (try dsimp only)))
        k_steps
        refine stage_end (_, wireD w wk1 wk2 ob wt1 j9 t9) (by assumption) (by assumption) (fun p hp => by repeat (first | exact hp | refine List.mem_cons_of_mem _ ?_)) (by (try dsimp only); (repeat (refine List.forall_mem_cons.mpr ⟨rfl, ?_⟩)); exact List.forall_mem_nil _) (by intro z hz hs; (try dsimp only); (repeat (refine ch_step (out_ne hs _) ?_)); first | exact ch_base hs | (refine ch_kst ?_ (ch_base hs); (repeat (refine List.forall_mem_cons.mpr ⟨(by dsimp only; exact out_ne hs _), ?_⟩)); exact List.forall_mem_nil _)) (.inl ⟨_, _, _, _, rfl, rfl, e9⟩)
      · rintro C9 e9 t9 vs9' o9 g9 h9 tk9 ⟨hC9, hn9⟩ G9 S9 U9
        refine look_X S9 B U9 ?_
        intro h8 S8 U8
        (try dsimp only)
        clear F N
        rcases hC9 with rfl | ⟨rfl, -⟩
        focus (refine pass_X S8 G9 B U8 X T (by k_is) (by kts_exm) rfl rfl (by decide) ?_)
        all_goals (refine hit_X S8 G9 B U8 X T (by k_is) (by kts_exm) rfl rfl (by decide) ?_ (by passes_own); intro h7 F7 N7; (try dsimp only))
        all_goals k_steps
        all_goals (refine stage_end (.none, o9) (by assumption) (by assumption) (fun p hp => by repeat (first | exact hp | refine List.mem_cons_of_mem _ ?_)) (by (try dsimp only); (repeat (refine List.forall_mem_cons.mpr ⟨rfl, ?_⟩)); exact List.forall_mem_nil _) (by intro z hz hs; (try dsimp only); (repeat (refine ch_step (out_ne hs _) ?_)); first | exact ch_base hs | (refine ch_kst ?_ (ch_base hs); (repeat (refine List.forall_mem_cons.mpr ⟨(by dsimp only; exact out_ne hs _), ?_⟩)); exact List.forall_mem_nil _)) (.inr ⟨rfl, hn9⟩))
    clear F N
    rintro ⟨hv, ho⟩ u h tk hP F N
    (try dsimp only at hP F N ⊢)
    dsimp only [kstB] at F
    k_with_none
    k_with "wpN" => (k_here; (fail_if_success (with_reducible show wpN _ _ (exec (Stmt.For _ _ _ _ _) _) _ _ _)); (with_reducible show wpN _ _ _ _ _ _); k_dflt (refine wpN_of ?_; (try k_fold)))
    k_with "wpN" => (k_here; (with_reducible show wpN _ _ (execs (_ :: _) _) _ _ _); k_dflt (refine N_execs_cons ?_))
    k_with "wpN" => (k_here; (with_reducible show wpN _ _ (execs [] _) _ _ _); k_dflt (refine N_execs_nil ?_; (try dsimp only)))
    refine N_execs_cons (stage_M mb (h₀ := s.heap) (L := L') (σ := Obj) (fun c => (wa, wireO da #[]) :: (da, c) :: (tla, listOf tl.toArray tn) :: (ca, listOf its.toArray n) :: (L' + 1, oc) :: own) (fun c => [(PySem.Str.ofString "wire", .ref wa), (PySem.Str.ofString "is_right", .bool r'), (PySem.Str.ofString "worth", .int wv wt), (PySem.Str.ofString "has_entry", .bool hb), (PySem.Str.ofString "turns", .ref tla)]) (fun c => True) ?_ ?_)
    · subst hwv
      rcases plain_hP (D := fun j t => wireD w wk1 wk2 ob wt1 j t) hP hmod with ⟨rfl, ht, ht2, rfl, rfl⟩ | ⟨rfl, rfl⟩
      all_goals (try dsimp only at N F ⊢)
      all_goals k_steps
      all_goals (try (exfalso; omega))
      all_goals (refine stage_end _ (by assumption) (by assumption) (fun p hp => by repeat (first | exact hp | refine List.mem_cons_of_mem _ ?_)) (by (try dsimp only); (repeat (refine List.forall_mem_cons.mpr ⟨rfl, ?_⟩)); exact List.forall_mem_nil _) (by intro z hz hs; (try dsimp only); (repeat (refine ch_step (out_ne hs _) ?_)); first | exact ch_base hs | (refine ch_kst ?_ (ch_base hs); (repeat (refine List.forall_mem_cons.mpr ⟨(by dsimp only; exact out_ne hs _), ?_⟩)); exact List.forall_mem_nil _)) trivial)
    clear F N
    rintro ho2 u h tk - F N
    (try dsimp only at F N ⊢)
    dsimp only [kstB] at F
    k_steps
    refine kst_end (its, n, tl ++ [.bool r'], tn + 1, !hb) (by assumption) (by assumption) (fun p hp => by rcases List.mem_cons.mp hp with rfl | hp; (dsimp only; rw [← List.push_toArray]; exact .tail _ (.tail _ (.head _))); rcases List.mem_cons.mp hp with rfl | hp; exact .tail _ (.tail _ (.tail _ (.head _))); rw [List.mem_singleton.mp hp]; exact .tail _ (.tail _ (.tail _ (.tail _ (.head _))))) (fun p hp => by repeat (first | exact hp | refine List.mem_cons_of_mem _ ?_)) rfl trivial (by (try dsimp only); (repeat (refine List.forall_mem_cons.mpr ⟨rfl, ?_⟩)); exact List.forall_mem_nil _) (by intro z _ hz hs; (try dsimp only); (repeat (refine ch_step (out_ne hs _) ?_)); first | exact ch_base hs | (refine ch_kst ?_ (ch_base hs); (repeat (refine List.forall_mem_cons.mpr ⟨(by dsimp only; exact out_ne hs _), ?_⟩)); exact List.forall_mem_nil _)) ⟨⟨ns', hi, hl'⟩, by simp [htll]⟩
  · rintro ⟨its, n, tl, tn, hb⟩ u h tk - ⟨⟨ns', hi, hl'⟩, htll⟩ F N
    dsimp only [kstB] at F N hi htll ⊢
    rw [rangeKs_length] at htll
    obtain ⟨x1, x2, x3, htl3⟩ := len3 htll
    k_with_none
    k_with "wpN" => (k_here; (fail_if_success (with_reducible show wpN _ _ (exec (Stmt.For _ _ _ _ _) _) _ _ _)); (with_reducible show wpN _ _ _ _ _ _); k_dflt (refine wpN_of ?_; (try k_fold)))
    k_with "wpN" => (k_here; (with_reducible show wpN _ _ (execs (_ :: _) _) _ _ _); k_dflt (refine N_execs_cons ?_))
    k_with "wpN" => (k_here; (with_reducible show wpN _ _ (execs [] _) _ _ _); k_dflt (refine N_execs_nil ?_; (try dsimp only)))
    refine N_execs_cons (stage_M mb (h₀ := s.heap) (L := L') (σ := Addr × Addr × Nat × Nat × Nat × Nat) (fun c => (c.1, wireO c.2.1 #[]) :: (c.2.1, wireD w c.2.2.1 c.2.2.2.1 #[49, 50] c.2.2.2.2.1 0 c.2.2.2.2.2) :: (tla, listOf tl.toArray tn) :: (ca, listOf its.toArray n) :: [(L' + 1, oc)]) (fun c => [(PySem.Str.ofString "wire", .ref c.1), (PySem.Str.ofString "turns", .ref tla)]) (fun c => (@LT.lt Nat _ tla c.2.1 ∧ @LT.lt Nat _ ca c.2.1 ∧ @LT.lt Nat _ (L' + 1) c.2.1) ∧ @LT.lt Nat _ c.2.1 c.1) ?_ ?_)
    · k_steps
      refine stage_end (_, _, _, _, _, _) (by assumption) (by assumption) (fun p hp => by repeat (first | exact hp | refine List.mem_cons_of_mem _ ?_)) (by (try dsimp only); (repeat (refine List.forall_mem_cons.mpr ⟨rfl, ?_⟩)); exact List.forall_mem_nil _) (by intro z hz hs; (try dsimp only); (repeat (refine ch_step (out_ne hs _) ?_)); first | exact ch_base hs | (refine ch_kst ?_ (ch_base hs); (repeat (refine List.forall_mem_cons.mpr ⟨(by dsimp only; exact out_ne hs _), ?_⟩)); exact List.forall_mem_nil _)) ⟨by assumption, by assumption⟩
    clear F N
    rintro ⟨wa, da, wk1, wk2, wt1, wt2⟩ u h tk ⟨⟨hw1, hw2, hw3⟩, hw5⟩ F N
    (try dsimp only at hw1 hw2 hw3 hw5 F N ⊢)
    dsimp only [kstB] at F
    refine N_execs_cons (stage_M mb (h₀ := s.heap) (L := L') (σ := Unit) (fun c => (wa, wireO da #[]) :: (da, wireD w wk1 wk2 #[49, 50] wt1 0 wt2) :: (tla, listOf tl.toArray tn) :: (ca, listOf its.toArray n) :: [(L' + 1, oc)]) (fun c => [(PySem.Str.ofString "heard", .none), (PySem.Str.ofString "wire", .ref wa), (PySem.Str.ofString "turns", .ref tla)]) (fun c => True) ?_ ?_)
    · k_steps
      refine stage_end () (by assumption) (by assumption) (fun p hp => by repeat (first | exact hp | refine List.mem_cons_of_mem _ ?_)) (by (try dsimp only); (repeat (refine List.forall_mem_cons.mpr ⟨rfl, ?_⟩)); exact List.forall_mem_nil _) (by intro z hz hs; (try dsimp only); (repeat (refine ch_step (out_ne hs _) ?_)); first | exact ch_base hs | (refine ch_kst ?_ (ch_base hs); (repeat (refine List.forall_mem_cons.mpr ⟨(by dsimp only; exact out_ne hs _), ?_⟩)); exact List.forall_mem_nil _)) trivial
    clear F N
    rintro - u h tk - F N
    (try dsimp only at F N ⊢)
    dsimp only [kstB] at F
    k_with_none
    k_with "wpN" => (k_here; (with_reducible show wpN _ _ (callWith _ (Value.ref _) _ (backTo _ (starEach (_ :: _) _)) []) _ _ _); k_dflt (refine callWith_KN (by k_asm) (by k_is) ?_; (try k_fold)))
    refine N_execs_cons (stage_W mb (h₀ := s.heap) (L := L') (σ := Obj) (fun c => (wa, wireO da #[]) :: (da, c) :: (tla, listOf tl.toArray tn) :: (ca, listOf its.toArray n) :: [(L' + 1, oc)]) (fun c => [(PySem.Str.ofString "heard", .none), (PySem.Str.ofString "wire", .ref wa), (PySem.Str.ofString "turns", .ref tla)]) (fun c => True) ?_ ?_)
    · refine N_Try ?_
      refine N_execs_cons (N_Assign_Name (N_Call ?_))
      k_steps
      k_dflt (refine GivesWB.use2 (D := wireD w wk1 wk2 #[49, 50] wt1) (i := 0) (t2 := wt2) (da := da) (by k_asm) (by k_asm) (by k_asm) (by k_asm) (by k_asm) (by first | exact rfl | assumption) (by assumption) (by assumption) (by k_mem) (by intro o9; k_upd) (by ktr_room) (by ktr_units) (modseq_c _ (ks := [49, 50]) rfl (by decide) (by decide) (by decide) (by decide)) ?_ ?_)
      · rintro v9 j9 t9 h9 tk9 ⟨n9, e9, -⟩ F9 N9
        exact absurd e9 (by rw [mod_0 (ks := [49, 50]) (i := 0) (by decide)]; exact fun e => nomatch e)
      · rintro C9 e9 t9 vs9' o9 g9 h9 tk9 ⟨hC9, hn9⟩ G9 S9 U9
        refine look_X S9 B U9 ?_
        intro h8 S8 U8
        (try dsimp only)
        clear F N
        rcases hC9 with rfl | ⟨-, e8⟩
        focus (refine hit_X S8 G9 B U8 X T (by k_is) (by kts_exm) rfl rfl (by decide) ?_ (by passes_own); intro h7 F7 N7; (try dsimp only))
        focus k_steps
        focus (refine stage_end o9 (by assumption) (by assumption) (fun p hp => by repeat (first | exact hp | refine List.mem_cons_of_mem _ ?_)) (by (try dsimp only); (repeat (refine List.forall_mem_cons.mpr ⟨rfl, ?_⟩)); exact List.forall_mem_nil _) (by intro z hz hs; (try dsimp only); (repeat (refine ch_step (out_ne hs _) ?_)); first | exact ch_base hs | (refine ch_kst ?_ (ch_base hs); (repeat (refine List.forall_mem_cons.mpr ⟨(by dsimp only; exact out_ne hs _), ?_⟩)); exact List.forall_mem_nil _)) trivial)
        exact absurd e8 (by decide)
    clear F N
    rintro ho u h tk - F N
    (try dsimp only at F N ⊢)
    dsimp only [kstB] at F
    k_with_none
    k_with "wpN" => (k_here; (fail_if_success (with_reducible show wpN _ _ (exec (Stmt.For _ _ _ _ _) _) _ _ _)); (with_reducible show wpN _ _ _ _ _ _); k_dflt (refine wpN_of ?_; (try k_fold)))
    k_with "wpN" => (k_here; (with_reducible show wpN _ _ (execs (_ :: _) _) _ _ _); k_dflt (refine N_execs_cons ?_))
    k_with "wpN" => (k_here; (with_reducible show wpN _ _ (execs [] _) _ _ _); k_dflt (refine N_execs_nil ?_; (try dsimp only)))
    subst htl3
    (try dsimp only at N)
    k_steps
    exact ret _ _ _ _ _ F N
end
section
open PySem PySem.W PyProof.Rows PySem.Calls
/-- the caller's thread ends, where the tree is shown for good stacks alone -/
theorem ends_N {prog : Program} {w : World} {t : Sem Fin} {s : Shared} {R : Result → Shared → Prop} (hz : s.asleep)
    (h : wpN (model prog w) callerA t (fun fin s' => ∃ f, fin = .done f ∧ (R (.ok f) s' ∧ leftWithCleanup s'.gens = false)) (fun e s' => R (.error e) s' ∧ leftWithCleanup s'.gens = false) s) :
    ∃ n r s' s'', runN (denote table) prog w n s ⟨t, .builtin "claim.caller" {}, default, []⟩ = .halted (outcomeOf r) s' ∧
      schedN (denote table) prog w n (.single s ⟨t, .builtin "claim.caller" {}, default, []⟩) = .halted (outcomeOf r) s' ∧ s'.forget = s''.forget ∧ R r s'' := by
  have h1 : Sem.wp (model prog w) ⟨.builtin "claim.caller" {}, none, none, [], none⟩ t (Sem.finPost (model prog w) ⟨.builtin "claim.caller" {}, none, none, [], none⟩ fun r s' => R r s' ∧ leftWithCleanup s'.gens = false)
      (fun e _ s' => R (.error e) s' ∧ leftWithCleanup s'.gens = false) default s := by
    refine Sem.wp_mono _ _ t (fun fin p' s' h' => ?_) (fun _ _ _ h' => h') default s (h _ default caller_in (by show (!heldIds.contains "claim.caller") = true; decide +kernel) (fun x hx => nomatch hx))
    obtain ⟨f, rfl, hf⟩ := h'
    exact hf
  obtain ⟨n, r, s₁, s₂, a, b, c, d⟩ := wp_halts_full (M := model prog w) (R := R) hz h1
  exact ⟨n, r, s₂, s₁, b, a, c, d⟩
section
variable {r : OpenRow} {q : Program} {loose : List PySem.Str} {Xt : Shared → Bool} {XP : (PySem.Str → Option Value) → Heap → Prop} {α : Type} {Yf : Shared → α} {Ya : World → α} {YP : World → Heap → Prop} {d : DefRec} {kwd : List (PySem.Str × Expr)} {N : Nat}
/-- the row, from a call shown for good stacks -/
theorem holds_N (left : LeftO r.prog q loose Xt Yf Ya N) (hY : ∀ w s, Yf s = Ya w → YP w s.heap) (hYk : ∀ w h h', YP w h → (∀ b o, h.get? b = some o → h'.get? b = some o) → YP w h')
    (hX : ∀ s, Xt s = true → XP (s.heap.nsMap mainGlobals) s.heap) (hXk : ∀ mg h h', XP mg h → (∀ b o, h.get? b = some o → h'.get? b = some o) → XP mg h')
    (hdef : defOf q r.name = some (d, kwd)) (hp : r.prog.theDef r.name = some (d.params, d.body, d.scope)) (hk : kwWritten? d.params.kwonlyargs d.params.kw_defaults = some kwd) (hRf : ∀ s, Xt s = true → RecFacts r.records s.heap) (hwr : (!r.writes || r.records.isEmpty) = true)
    (k1 : r.wellSaid = true) (ok : (chainsOk q && opensWell r.prog && (frees r.toRowW && r.within.isEmpty)) = true) (hb : r.prog.bare) (hw : r.toRowW.promised)
    (call : ∀ (w : World) (s₀ s₁ : Shared) (mg mb : PySem.Str → Option Value), Ground q loose r.records XP w s₀ mg mb s₁.heap → YP w s₁.heap → ∀ (args : List WData) (vs : List Value) (as : List Addr),
      r.claim.pre args = true → WData.layableAll args = true → Laid r.records w s₀ s₁ args vs as → WellAll w.params s₁.heap vs args → (∀ a ∈ as, (a == sysModules) = false) → ∃ f, mg r.name = some f ∧
        wpN (model r.prog w) callerA (PySem.call f vs) (fun v s' => GoodWG r.claim (classAt s₀.heap) (ExcName.means s₀.heap) args s₁ (.ok (.ret v)) s')
          (fun e s' => GoodWG r.claim (classAt s₀.heap) (ExcName.means s₀.heap) args s₁ (.error e) s') s₁) : r.Holds := by
  obtain ⟨ok, k5⟩ := Bool.and_eq_true_iff.mp ok
  obtain ⟨hch, o1⟩ := Bool.and_eq_true_iff.mp ok
  obtain ⟨k5, k6⟩ := Bool.and_eq_true_iff.mp k5
  obtain ⟨hsame, hu, ha, hap, hm⟩ := frees_parts k5
  have hwi : r.toRowW.claim.within = [] := List.isEmpty_iff.mp k6
  have hid := ident_freeW hu ha hap
  refine ⟨k1, hw, ⟨hb, o1, by show r.makers.map _ = []; rw [hm]; rfl⟩, hw.witness, fun w => ?_⟩
  have bh := left.behind (XP := fun mg h => XP mg h ∧ RecFacts r.records h) (fun s hs => ⟨hX s hs, hRf s hs⟩) hch w
  refine ⟨bh.1, fun s' hs' => ?_⟩
  obtain ⟨s₀, hf, hg0, s, hT, hz, hgens, hg, G00, y⟩ := bh.2 s' hs'
  have hgens : s.gens = #[] := Array.eq_empty_of_size_eq_zero (beq_iff_eq.mp hgens)
  have RF := G00.X.2
  have G0 : Ground q loose [] XP w s (s.heap.nsMap mainGlobals) (s.heap.nsMap builtinsNs) s.heap := ⟨G00.T, G00.B, G00.D, G00.TE, G00.TD, G00.W, G00.X.1, G00.cls, G00.has, G00.apart, G00.once, G00.K⟩
  have G := RF.ground G0
  refine ⟨s₀, hf, hg0, s, hT, fun n hn => ?_, RF.1, RF.2.1, ?_⟩
  · obtain rfl : n = r.name := by split at hn <;> simp_all
    exact pinned_of_view hg G0 hdef hp hk
  intro args hpre hlay ord hord
  obtain ⟨⟨vs, s₁⟩, hlaid⟩ := Option.isSome_iff_exists.mp (layAllW_isSome (P := w.params) (ord := ord) G.has args r.args s (pre_splitW hpre).1)
  have keeps := layAllW_keeps _ _ _ hlaid
  have hal := layAllW_rest _ _ _ hlaid
  obtain ⟨as, hrd, hin, hold⟩ := reads_layAllW hord _ _ _ hlaid hlay s₁.heap (fun _ _ e => e)
  have L : Laid r.records w s s₁ args vs as := ⟨⟨ord, hord, hlaid⟩, hrd, hin, hold, keeps, hal.1.trans hgens, hal.2.2.1⟩
  have G₁ := G.keeps hXk keeps
  obtain ⟨f, hfn, hc⟩ := call w s s₁ _ _ G₁ (hYk _ _ _ (hY w s y) keeps) args vs as hpre hlay L L.well (L.low G.low)
  have told : ∀ res s', GoodWG r.claim (classAt s.heap) (ExcName.means s.heap) args s₁ res s' → r.toRowW.claim.Ends s args vs s₁ res s' ∧ s'.os = s.os ∧ leftWithCleanup s'.gens = false ∧
      (r.writes = true → namesKept r.toRowW.claim.prog r.keeps s.heap s'.heap ∧ ∀ x ∈ r.toRowW.claim.records, ∀ a, classAt s.heap x.1 = some a → recordClass s'.heap a x.1 (x.2.map (·.1)) = true) := fun res s' g => by
    obtain ⟨z1, z2, z3⟩ := g.laid (c := r.claim) hsame hwi hid L
    exact ⟨z1, z2, leftWithCleanup_false_of_bare z3, fun q => ⟨namesKept_of hT hg r.keeps keeps g.2.1.old, noTable hwr q⟩⟩
  obtain ⟨k, res, s3, s4, hrun, hsched, hfo, hend, hos, hkp⟩ := ends_N (prog := r.prog) (w := w) (s := s₁) (Shared.asleep_of_life hal.2.2.2 hz)
    (t := (do match ← nsGet mainNs r.name with
      | some f => do ret (← PySem.call f vs)
      | none => unsupported "claim.caller:no-such-global" : Sem Fin))
    (R := fun res s' => r.toRowW.claim.Ends s args vs s₁ res s' ∧ s'.os = s.os ∧
      (r.writes = true → namesKept r.toRowW.claim.prog r.keeps s.heap s'.heap ∧ ∀ x ∈ r.toRowW.claim.records, ∀ a, classAt s.heap x.1 = some a → recordClass s'.heap a x.1 (x.2.map (·.1)) = true)) (by
      refine wpN_bindA (wpAny_nsGet G₁.T.g ?_)
      rw [hfn]
      refine wpN_bind (wpN_mono hc (fun v s' g => wpN_pure ⟨_, rfl, ?_⟩) fun e s' g => ?_)
      · have := told _ _ g
        exact ⟨⟨this.1, this.2.1, this.2.2.2⟩, this.2.2.1⟩
      · have := told _ _ g
        exact ⟨⟨this.1, this.2.1, this.2.2.2⟩, this.2.2.1⟩)
  obtain ⟨eh, _, _, eo, _⟩ := Shared.forget_eq hfo
  have hend := hend.congr eh
  rw [← eh] at hkp
  rw [← eo] at hos
  have hlife : s3.heap.life = s.heap.life := (runN_life _ _ _ hrun).trans hal.2.2.2
  refine ⟨vs, s₁, hlaid, k, _, s3, hsched, ?_, (fun _ i x hx => by rw [hgens] at hx; simp at hx), hkp, by rw [hlife], Shared.rest_eq hos⟩
  rcases hend with ⟨v, rfl, d1, d2, d3, d4, d5⟩ | ⟨e, ob, cls, rfl, d1, d2, d3, d4, d5⟩
  · exact .inl ⟨v, rfl, d1, d2, d3, fun b o y _ => d4 b o y, d5⟩
  · exact .inr ⟨e, ob, cls, rfl, d1, d2, d3, d4, fun b o y _ => d5 b o y⟩
end
end
section
open PySem PySem.W PyProof.Rows PySem.Calls
noncomputable abbrev hookQ : Hook := kHook hd.heap_1 addrs addrs_eq
theorem left_law : LeftO PySem.Challenge.rw_or0059_01.row.prog viewQ looseQ xtQ (Hook.obs hookQ) (Hook.val hookQ) 4000 :=
  left_of runQ h_open h_size runQ_spec h_c1 h_c2 h_c3
theorem h_def : (defOf viewQ PySem.Challenge.rw_or0059_01.row.name).isSome = true := by kernel_rfl
noncomputable def defQ : DefRec × List (PySem.Str × Expr) := (defOf viewQ PySem.Challenge.rw_or0059_01.row.name).get h_def
theorem h_def2 : defOf viewQ PySem.Challenge.rw_or0059_01.row.name = some (defQ.1, defQ.2) := by kernel_rfl
theorem h_the : PySem.Challenge.rw_or0059_01.row.prog.theDef PySem.Challenge.rw_or0059_01.row.name = some (defQ.1.params, defQ.1.body, defQ.1.scope) := by kernel_rfl
theorem h_kw : kwWritten? defQ.1.params.kwonlyargs defQ.1.params.kw_defaults = some defQ.2 := by kernel_rfl
theorem h_ok : (chainsOk viewQ && opensWell PySem.Challenge.rw_or0059_01.row.prog && (frees PySem.Challenge.rw_or0059_01.row.toRowW && PySem.Challenge.rw_or0059_01.row.within.isEmpty)) = true := by kernel_rfl
theorem h_bare : PySem.Challenge.rw_or0059_01.row.prog.bare := ⟨rfl, rfl, rfl, rfl, rfl, by decide +kernel⟩
theorem h_hw : PySem.Challenge.rw_or0059_01.row.toRowW.promised := by w_witness2
theorem h_call (w : World) (s₀ s₁ : Shared) (mg mb : PySem.Str → Option Value) (G : Ground viewQ looseQ PySem.Challenge.rw_or0059_01.row.records (XL viewQ []) w s₀ mg mb s₁.heap) (Y : (Hook.says hookQ) w s₁.heap) (args : List WData) (vs : List Value) (as : List Addr)
    (hpre : PySem.Challenge.rw_or0059_01.row.claim.pre args = true) (hlay : WData.layableAll args = true) (L : Laid PySem.Challenge.rw_or0059_01.row.records w s₀ s₁ args vs as) (hwl : WellAll w.params s₁.heap vs args) (hlo : ∀ a ∈ as, (a == sysModules) = false) : ∃ f, mg PySem.Challenge.rw_or0059_01.row.name = some f ∧
      wpN (model PySem.Challenge.rw_or0059_01.row.prog w) callerA (PySem.call f vs) (fun v s' => GoodWG PySem.Challenge.rw_or0059_01.row.claim (classAt s₀.heap) (ExcName.means s₀.heap) args s₁ (.ok (.ret v)) s')
        (fun e s' => GoodWG PySem.Challenge.rw_or0059_01.row.claim (classAt s₀.heap) (ExcName.means s₀.heap) args s₁ (.error e) s') s₁ := by
  have KX := kIn_of Y
  have T := G.T
  have hrd := L.reads
  have hg := L.gens
  refine ⟨.ref 406, mg_of KX T.g (by k_is), ?_⟩
  clear L G Y
  wrow_args hpre hlay hrd hwl hlo
  rename Heap.IsList _ _ _ => hL
  rename IntsAre _ _ => hI
  refine wpN_call (law_c w KX T hL hI (by omega) fun L' h' tk' m' news' F N => ?_)
  show GoodWG _ _ _ _ _ (.ok (.ret (.bool true))) _
  exact GoodW.toG (goodW_bool F hg (fun _ => rfl) (by wrow_post))
end
end Mine
theorem PySem.Challenge.cw_or0059_01_holds : PySem.Challenge.rw_or0059_01.Holds := by
  w_on
  refine holds_law (by kernel_rfl) fun said => ?_
  exact Mine.holds_N Mine.left_law (Hook.of _) (Hook.keeps _) (fun s e => xl_of s (Bool.and_eq_true_iff.mp e).1) XL.keeps Mine.h_def2 Mine.h_the Mine.h_kw (fun s e => recFacts_of (Bool.and_eq_true_iff.mp e).2) rfl said Mine.h_ok Mine.h_bare Mine.h_hw Mine.h_call
